import PyProof.Rows.All
import Wide.All
import OpenK.AllK
import Wide.FinOn
import KE.KLam
import KE.KIsNot
import KE.KSliceW
import KE.KDictOf
import PyProof.ExcClass3
import PyProof.ExcBaseAll.Exception
import PyProof.InstStoreFacts
import PyProof.ExcArgs
import PyProof.RulesAs
import PyProof.Rows.CatchOwn
import PyProof.PassesOwn
import PyProof.MeetsDictList
import PyProof.RaisesDict
import PyProof.RulesDelMore
import PyProof.DelItemList
import KE.KPar
import KE.KNestM
import PySem.Challenge.RW_nz0494_01
set_option Elab.async false
set_option tactic.hygienic false
set_option backward.match.sparseCases false
set_option genInjectivity false
set_option genSizeOf false
set_option genCtorIdx false
set_option bootstrap.genMatcherCode false
set_option linter.unusedVariables false
set_option linter.all false
set_option maxRecDepth 100000
set_option maxHeartbeats 8000000
set_option autoImplicit false
section
namespace Mine.Internal
open PySem PySem.W PyProof.Rows
noncomputable section
noncomputable abbrev pw:Program:=PySem.Challenge.pw_nz0494_01
noncomputable def aS (x:Str)(t:Nat):Value:=.str x t
noncomputable def aR (a:Nat):Value:=.ref a
noncomputable def aI (i:Nat)(t:Nat:=0):Value:=.int i t
noncomputable def ir (vs:List Value):Obj:={cls:=.type "tuple",data:=.seq ⟨vs⟩}
noncomputable def rU (vs:List Value):Obj:={cls:=.none,data:=.fields ⟨vs⟩}
noncomputable def rV (vs:List Value):Obj:={cls:=.type "builtin_function_or_method",data:=.fields ⟨vs⟩}
noncomputable def Dc (a:Nat):Obj:={cls:=.type "super",data:=.fields ⟨[aR a,aR a,aR a]⟩}
noncomputable def qy (P:Params)(es:List (Str×Nat×Value))(n:Nat):Obj:={cls:=.type "dict",data:=.dict ⟨es.map fun e=>⟨PyData.keyHash P e.1,aS e.1 e.2.1,e.2.2⟩⟩ n}
noncomputable def GW:Str:="/claim/cut.py"
noncomputable def xV (n q:Str)(t line ar m a:Nat)(b:Bool)(c:Nat)(v:List Value)(t':Nat):Obj:=
 {cls:=.type "code",data:=.fields ⟨[aS n t,aS q (t+1),aS GW (t+2),aI line,aI ar,aI 0,aI 0,aI m,aR a,.bool b,aI 181,aR c,.none]++v++[aI t',aI line,aS GW (t'+1)]⟩}
noncomputable def zG (c l:Nat)(m:Value):Obj:={cls:=.type "frame",slots:=⟨[some (aR c),some (aR 3),some (aR l),none,some m,none,some (aR 0)]⟩}
noncomputable def zH (vs:List Value):Obj:={cls:=.type "getset_descriptor",data:=.fields ⟨vs⟩}
noncomputable def Dd (n:Str)(bs mro:List Value)(ns:Nat)(sub:List Value)(b:Option Value)(t u:Nat)(nw:String):Obj:=
 {cls:=.type "type",data:=.cls {name:=n,bases:=bs,mro:=mro,ns:=ns,qualname:=n,subclasses:=sub},slots:=⟨[b,none,some (aS n t),some (aS n u),some (.builtin nw),some (.bool true)]⟩}
noncomputable def nums:Nat→List Str→List Value
 |_,[]=>[]
 |t,x::r=>aS x t::nums (t+1) r
noncomputable def locs (f:Bool)(sc:Scope):List Str:=if f then sc.names.filterMap fun (x,k)=>match k with|.local=>some x|_=>none else []
noncomputable def Jo (f:Bool)(q:Str)(m dv:Value)(a t:Nat):Stmt→List Obj
 |.FunctionDef n ar b _ _ _ sc _ _ p=>[ir [],rU []]++(if f then [ir (nums (t+3) (locs f sc)),ir []] else []) ++
  [{cls:=.none,data:=.func {name:=n,qualname:=q,params:=ar,body:=.stmts b,scope:=sc,globals:=0,closure:=[],defaults:=.none,kwdefaults:=.none}},
  xV n q t p.line ar.args.length 3 a true (a+1) (if f then [aR (a+2),aR (a+3),aR (a+4)] else [.none,.none,aR (a+2)]) (t+3+(locs f sc).length),
  {cls:=.type "function",data:=.func {name:=n,qualname:=q,params:=ar,body:=.stmts b,scope:=sc,globals:=3,closure:=[],defaults:=dv,kwdefaults:=.none,pyModule:=m,code:=aR (a+(if f then 5 else 3))}}]
 |_=>[]
noncomputable def De:Stmt→List Stmt
 |.ClassDef _ _ _ b _ _ _ _ _ _ _=>b
 |_=>[]
noncomputable def xW (i j:Nat):Stmt:=((De (pw.main.body[i]?.getD default))[j]?).getD default
noncomputable def uB:Value:=aS "vectorcove.errors" 194
noncomputable def qz:Value:=aS "vectorcove.values" 386
noncomputable def xX (P:Params)(sub:List Value):List Obj:=
 [ir [.type "Exception"],rV [.builtin "type.__prepare__",.type "type"],qy P [("__module__",203,uB),("__qualname__",205,aS "CoveError" 204),("__firstlineno__",207,aI 5 206),("__static_attributes__",208,aR 29)] 4,
 ir [],rU [],xV "CoveError" "CoveError" 198 5 0 0 25 false 26 [.none,.none,.none] 201,zG 27 24 uB,ir [],
 qy P [("__module__",203,uB),("__firstlineno__",207,aI 5 206),("__static_attributes__",208,aR 29),("__weakref__",210,aR 32),("__doc__",211,.none)] 3,
 Dd "CoveError" [.type "Exception"] [aR 31,.type "Exception",.type "BaseException",.type "object"] 30 sub (some (aR 22)) 196 204 "Exception.__new__",
 zH [aS "__weakref__" 209,aR 31,.builtin "ExceptionGroup.__weakref__",.none],Dc 31,rV [.builtin "object.__init_subclass__",aR 31]]
noncomputable def Mh (P:Params):List Obj:=
 [ir [aR 31],rV [.builtin "type.__prepare__",.type "type"],qy P [("__module__",223,uB),("__qualname__",225,aS "Refusal" 224),("__firstlineno__",227,aI 7 226),("__init__",235,aR 48),("__static_attributes__",237,aR 49)] 5,
 ir [],rU [aI 9,aI 4,aR 47],xV "Refusal" "Refusal" 218 7 0 0 38 false 39 [.none,.none,.none] 221,zG 40 37 uB]++Jo true "Refusal.__init__" uB .none 42 228 (xW 3 0) ++
 [ir [aS "message" 236],
 qy P [("__module__",223,uB),("__firstlineno__",227,aI 7 226),("__init__",235,aR 48),("__static_attributes__",237,aR 49),("__doc__",238,.none)] 2,
 Dd "Refusal" [aR 31] [aR 51,aR 31,.type "Exception",.type "BaseException",.type "object"] 50 [] (some (aR 35)) 216 224 "Exception.__new__",Dc 51,rV [.builtin "object.__init_subclass__",aR 51]]
noncomputable def Jp (P:Params):List Obj:=
 [ir [],rV [.builtin "type.__prepare__",.type "type"],qy P [("__module__",397,qz),("__qualname__",399,aS "Null" 398),("__firstlineno__",401,aI 125 400),("__init__",408,aR 164),("__static_attributes__",411,aR 165)] 5,
 ir [],rU [aI 127,aI 4,aR 163],xV "Null" "Null" 392 125 0 0 154 false 155 [.none,.none,.none] 395,zG 156 153 qz]++Jo true "Null.__init__" qz .none 158 402 (xW 22 0) ++
 [ir [aS "attrs" 409,aS "kind" 410],
 qy P [("__module__",397,qz),("__firstlineno__",401,aI 125 400),("__init__",408,aR 164),("__static_attributes__",411,aR 165),("__dict__",413,aR 168),("__weakref__",415,aR 169),("__doc__",416,.none)] 4,
 Dd "Null" [.type "object"] [aR 167,.type "object"] 166 [] none 390 398 "object.__new__",
 zH [aS "__dict__" 412,aR 167,.builtin "function.__dict__",.builtin "function.__dict__#set"],zH [aS "__weakref__" 414,aR 167,.builtin "ExceptionGroup.__weakref__",.none],Dc 167,rV [.builtin "object.__init_subclass__",aR 167]]
noncomputable def Jq (P:Params):List Obj:=
 [ir [],rV [.builtin "type.__prepare__",.type "type"],qy P [("__module__",426,qz),("__qualname__",428,aS "Vector" 427),("__firstlineno__",430,aI 130 429),("__init__",440,aR 186),("copy",447,aR 193),("__static_attributes__",453,aR 194)] 6,
 ir [],rU [aI 132,aI 4,aR 185,aI 139,aI 4,aR 192],xV "Vector" "Vector" 421 130 0 0 175 false 176 [.none,.none,.none] 424,zG 177 174 qz,ir [.none]]++Jo true "Vector.__init__" qz (aR 179) 180 431 (xW 23 0)++Jo true "Vector.copy" qz .none 187 441 (xW 23 1) ++
 [ir [aS "attrs" 448,aS "items" 449,aS "kind" 450,aS "loose" 451,aS "shared" 452],
 qy P [("__module__",426,qz),("__firstlineno__",430,aI 130 429),("__init__",440,aR 186),("copy",447,aR 193),("__static_attributes__",453,aR 194),("__dict__",455,aR 197),("__weakref__",457,aR 198),("__doc__",458,.none)] 4,
 Dd "Vector" [.type "object"] [aR 196,.type "object"] 195 [] none 419 427 "object.__new__",
 zH [aS "__dict__" 454,aR 196,.builtin "function.__dict__",.builtin "function.__dict__#set"],zH [aS "__weakref__" 456,aR 196,.builtin "ExceptionGroup.__weakref__",.none],Dc 196,rV [.builtin "object.__init_subclass__",aR 196]]
structure Jr where
 os:List Obj:=[]
 gl:List (Str×Nat×Value):=[]
 tb:List Value:=[]
 st:List (Str×Nat×Value):=[]
 a:Nat:=15
 t:Nat:=187
 m:Value:=aS "__main__" 164
noncomputable def Mi:List Nat:=[117,194,246,353,365,386,452,468,470,494,544,570,617]
noncomputable def F1 (n:Str)(f:Bool)(line a':Nat)(os:List Obj)(z:Jr)(dv:Value)(a t k:Nat)(st:Stmt):Jr:=
 {z with os:=z.os++os++Jo f n z.m dv a t st,gl:=z.gl++[(n,t+5+k,aR (a+(if f then 6 else 4)))],tb:=z.tb++[aI line,aI 0,aR (a+(if f then 5 else 3))],a:=a+(if f then 7 else 5),t:=t+6+k}
noncomputable def Df (P:Params)(dk:List Nat)(z:Jr)(s:Stmt):Jr:=match s with
 |.FunctionDef n ar _ _ _ _ sc _ _ p=>(match ar.defaults with
  |[]=>F1 n (!dk.elem p.line) p.line z.a [] z .none z.a z.t (locs (!dk.elem p.line) sc).length s
  |_=>F1 n (!dk.elem p.line) p.line z.a [ir [aI 7 z.t]] z (aR z.a) (z.a+1) (z.t+1) (locs (!dk.elem p.line) sc).length s)
 |.Assign _ (.Constant (.str x) _ _) _=>{z with m:=aS x z.t,t:=z.t+2}
 |.Assign _ (.Constant (.int i) _ _) _=>{z with gl:=z.gl++[(("MOST_LENGTH":Str),z.t+1,Value.int i z.t)],t:=z.t+2}
 |.ClassDef n _ _ _ _ _ _ _ _ _ p=>match p.line with
  |5=>{z with os:=z.os++xX P [],gl:=z.gl++[(n,215,aR 31)],tb:=z.tb++[aI 5,aI 0,aR 27],st:=[("type.__subclasses__.Exception.0",212,aI 31),("type.__subclasses__.Exception.n",213,aI 1)],a:=35,t:=216}
  |7=>{z with os:=z.os.take 7++xX P [aR 51]++Mh P,gl:=z.gl++[(n,240,aR 51)],tb:=z.tb++[aI 7,aI 0,aR 40],a:=54,t:=241}
  |125=>{z with os:=z.os++Jp P,gl:=z.gl++[(n,418,aR 167)],tb:=z.tb++[aI 125,aI 0,aR 156],a:=172,t:=419}
  |_=>{z with os:=z.os++Jq P,gl:=z.gl++[(n,460,aR 196)],tb:=z.tb++[aI 130,aI 0,aR 177],a:=201,t:=461}
 |_=>z
noncomputable def Js (m:Value):List (Str×Nat×Value):=
 [("__name__",165,m),("__doc__",166,.none),("__package__",167,.none),("__loader__",168,.builtin "__main__.__loader__#opaque"),("__spec__",169,.none),("__annotations__",170,aR 6),("__builtins__",171,aR 4),("__file__",173,aS GW 172),("__cached__",174,.none)]
noncomputable def Mj (P:Params)(k:Nat):Jr:=(pw.main.body.take k).foldl (Df P Mi) {}
def zI (P:Params)(k:Nat):List Obj:=match Mj P k with
 |z=>[boot_o_0 P,boot_o_1 P,{cls:=.none,data:=.dict ⟨z.st.map fun e=>⟨PyData.keyHash P e.1,aS e.1 e.2.1,e.2.2⟩⟩ z.st.length},qy P (Js z.m++z.gl) (9+z.gl.length),
  boot_o_4 P,boot_o_5 P,boot_o_6 P,boot_o_7 P,boot_o_8 P,boot_o_9 P,boot_o_10 P,ir [],rU z.tb,xV "<module>" "<module>" 182 1 0 0 11 false 12 [.none,.none,.none] 185,zG 13 3 (aS "__main__" 164)]++z.os
noncomputable def zJ:List Obj→Nat→BT→BT
 |[],_,b=>b
 |o::r,n,b=>zJ r (n+1) (b.ins n o)
def zK (P:Params)(k:Nat):BT:=zJ (zI P k) 0 .nil
end
noncomputable section
theorem Mk:OpenLaw.wellSaid PySem.Challenge.rw_nz0494_01=true:=
 (congrFun PySem.W.Fast.te9446332074065402090 PySem.Challenge.rw_nz0494_01).trans (by kernel_rfl)
noncomputable def zL:PySem.Env:={scope:=pw.main.scope,locals:=mainNs,globals:=mainNs,cells:=[],code:=aR 13,frame:=some 14}
noncomputable def cM:Code:=.body (behindTheImports pw) zL
def I7 (w:World)(os:OsState)(k n t:Nat):SharedT:=⟨zK w.params k,n,{},⟨[]⟩,boot_drawn,t,os⟩
noncomputable abbrev PX (i m:Nat):List Stmt:=(pw.main.body.drop i).take m
noncomputable def posAt:Nat→Pos
 |0=>default
 |k+1=>match pw.main.body[k]? with
  |some (.FunctionDef _ _ _ _ _ _ _ _ _ p)=>p
  |some (.ClassDef _ _ _ _ _ _ _ _ _ _ p)=>p
  |some (.Assign [.Name _ p] _ _)=>p
  |_=>default
noncomputable abbrev uC:Option Value:=some (.ref 6)
noncomputable abbrev BM:List Frame:=[topFrame default]
section
variable {w:World}{os:OsState}
theorem iy {i m n n' t t' N M:Nat}{r:Shared}(h:PySem.W.Fast.tw10110043849684766642 PySem.W.Fast.tw14364793385576792824 pw w 11 uC 1 N (I7 w os i n t) (piecesOf (PX i m) zL cM (posAt i) BM)=some (.next,I7 w os (i+m) n' t',cM,posAt (i+m)))
  (k:topRun treeTable pw w 11 uC M (I7 w os (i+m) n' t').abs (restOf (pw.main.body.drop (i+m)) zL cM (posAt (i+m)) BM)=some r):
  topRun treeTable pw w 11 uC (N+M) (I7 w os i n t).abs (restOf (pw.main.body.drop i) zL cM (posAt i) BM)=some r:=by
 rw [←PySem.W.Fast.te10110043849684766642,←PySem.W.Fast.te14364793385576792824] at h;have:=piece_app (rest:=pw.main.body.drop (i+m)) (segRun_of h) k
 rwa [←List.drop_drop,List.take_append_drop] at this
end
def H1 (P:Params):Heap:=absHeap (zK P 72) 499 {}
theorem Ml (w:World)(os:OsState):topRun treeTable pw w 11 uC (12+(1+(39+(197+(246+(238+(248+(223+(261+(334+(376+(330+(340+(2)))))))))))))) ⟨boot_heap w.params,⟨[]⟩,boot_drawn,boot_toks,os⟩ (topStub pw)=some ⟨H1 w.params,⟨[]⟩,boot_drawn,835,os⟩:=by
 have e0:PySem.W.Fast.tw15667345088766844465 PySem.W.Fast.tw14364793385576792824 pw w 11 uC 12 ⟨boot_heap w.params,⟨[]⟩,boot_drawn,boot_toks,os⟩ (topStub pw)=some ((I7 w os 0 15 187).abs,⟨PySem.W.Fast.tw11892475500146522536 PySem.W.Fast.tw14364793385576792824 cM,cM,posAt 0,BM⟩):=by kernel_rfl
 rw [←PySem.W.Fast.te15667345088766844465,←PySem.W.Fast.te14364793385576792824,←PySem.W.Fast.te11892475500146522536] at e0;refine go_top e0 (piece_block (b:=behindTheImports pw) (n:=1) (by kernel_rfl) (?_:topRun treeTable pw w 11 uC _ (I7 w os 0 15 187).abs (restOf (pw.main.body.drop 0) zL cM (posAt 0) BM)=_));refine iy (i:=0) (m:=2) (N:=39) (n':=22) (t':=196) (by kernel_rfl) ?_;refine iy (i:=2) (m:=1) (N:=197) (n':=35) (t':=216) (by kernel_rfl) ?_;refine iy (i:=3) (m:=1) (N:=246) (n':=54) (t':=241) (by kernel_rfl) ?_;refine iy (i:=4) (m:=9) (N:=238) (n':=103) (t':=310) (by kernel_rfl) ?_;refine iy (i:=13) (m:=9) (N:=248) (n':=151) (t':=390) (by kernel_rfl) ?_;refine iy (i:=22) (m:=1) (N:=223) (n':=172) (t':=419) (by kernel_rfl) ?_;refine iy (i:=23) (m:=1) (N:=261) (n':=201) (t':=461) (by kernel_rfl) ?_;refine iy (i:=24) (m:=12) (N:=334) (n':=278) (t':=545) (by kernel_rfl) ?_;refine iy (i:=36) (m:=12) (N:=376) (n':=358) (t':=660) (by kernel_rfl) ?_;refine iy (i:=48) (m:=12) (N:=330) (n':=429) (t':=746) (by kernel_rfl) ?_;refine iy (i:=60) (m:=12) (N:=340) (n':=499) (t':=835) (by kernel_rfl) ?_;kernel_rfl
noncomputable def qM:Program:={pw with main:={pw.main with body:=pw.main.body.drop 71}}
noncomputable def m8:List Str:=(pw.main.body.take 71).filterMap fun st=>match st with
 |.FunctionDef n ..=>some n
 |.ClassDef n ..=>some n
 |.Assign [.Name n _] _ _=>if n="MOST_LENGTH" then some n else none
 |_=>none
end
noncomputable section
noncomputable def GX:List Obj→Nat→Frag
 |[],_=>[]
 |o::r,n=>match Nat.beq n 495 with
  |true=>GX r (n+1)
  |false=>(n,o)::GX r (n+1)
def KK (P:Params):Frag:=GX (zI P 72) 0
theorem Jt (P:Params):(KK P).map (fun p=>(H1 P).get? p.1)=(KK P).map fun p=>some p.2:=by kernel_rfl
theorem GY (P:Params):(H1 P).get? 495=some (rU []):=by kernel_rfl
def F2:Hook where
 α:=Heap
 obs s:=s.heap
 val w:=H1 w.params
 says w h:=(KK w.params).In h∧h.get? 495=some (rU [])
 of w s e:=by rw [e];exact ⟨Frag.in_of rfl (by rw [List.map_map];exact Jt w.params),GY _⟩
 keeps w h h' x k:=⟨x.1.keeps k,k _ _ x.2⟩
noncomputable abbrev Mm (s:Shared):Bool:=xlAt qM [] s&&recOk [] s
theorem opens (w:World):(fencedOpening treeTable pw w 6000).map (fun s=>(s.heap,s.gens,s.drawn,s.toks))=some (boot_heap w.params,⟨[]⟩,boot_drawn,boot_toks):=
 boot_open (by kernel_rfl) (by decide) (fun s=>by kernel_rfl) w
theorem Ju (P:Params):((boot_heap P).isNs mainGlobals&&(Array.mk ([]:List GenState)).size == 0,(boot_heap P).objs.size,(boot_heap P).nsMap mainGlobals "__annotations__")=(true,11,uC):=by kernel_rfl
theorem zM (P:Params)(os:OsState):(staticsOk (importedModules pw.main.body) (boot_heap P) (H1 P)&&namesBound pw (H1 P)&&gensDone ⟨H1 P,⟨[]⟩,boot_drawn,835,os⟩&&laidKept (boot_heap P) (H1 P))=true:=by kernel_rfl
theorem Jv (P:Params)(os:OsState):openSeen qM m8 (importedModules pw.main.body) Mm true ⟨H1 P,⟨[]⟩,boot_drawn,835,os⟩=openGood qM m8:=by
 rw [PySem.W.Fast.te4187177175401517315];kernel_rfl
theorem left:LeftO pw qM m8 Mm F2.obs F2.val 6000:=
 LeftO.of_pieces opens (fun w=>Ju w.params) Ml (by decide +kernel) (fun w=>funext fun os=>Prod.ext (zM _ _) (Prod.ext (Jv _ _) rfl))
noncomputable def dM:DefRec:=match pw.main.body.drop 71 with
 |.FunctionDef n a b _ _ _ sc _ _ p::_=>⟨n,a,b,sc,p⟩
 |_=>⟨"",⟨[],[],none,[],[],none,[]⟩,[],⟨.module,[],false,false,[]⟩,default⟩
theorem GZ:defOf qM "law"=some (dM,[]):=by kernel_rfl
theorem G0:pw.theDef "law"=some (dM.params,dM.body,dM.scope):=by kernel_rfl
theorem head (call:WalkO qM m8 (XL qM []) F2.says PySem.Challenge.rw_nz0494_01.row.toRowW dM [] fun f vs=>PySem.call f vs):PySem.Challenge.rw_nz0494_01.Holds:=
 holds_law Mk fun h=>holds_open (r:=PySem.Challenge.rw_nz0494_01.row) (q:=qM) (loose:=m8) (Xt:=Mm) (XP:=XL qM []) (Yf:=F2.obs) (Ya:=F2.val) (YP:=F2.says) (N:=6000) left F2.of F2.keeps (fun s e=>xl_of s (Bool.and_eq_true_iff.mp e).1) XL.keeps
  GZ G0 (by kernel_rfl) (fun s e=>recFacts_of (Bool.and_eq_true_iff.mp e).2) (by kernel_rfl) h (by decide +kernel) ⟨rfl,rfl,rfl,rfl,rfl,by decide +kernel⟩ ⟨[.list []],by decide +kernel,by decide +kernel⟩ call
end
end Mine.Internal
end
section
namespace Mine.Internal
open PySem
set_option genCtorIdx true in
inductive T where
 |none|bool (b:Bool)|int (i:Int)|str (s:Str)
 |tup (ts:List T)|list (ts:List T)|dict (es:List (Str×T))
 |vec (kind:Str) (items:List T) (attrs:T)
 |null
 |range (a b:Int)
 |row|self
 deriving Inhabited
structure aM where
 kind:Str
 items:List T
 attrs:Option (List (Str×T))
 ep:Nat
structure Sg where
 row:Option (List Int):=.none
 self:Option aM:=.none
set_option genCtorIdx true in
inductive Res (α:Type) where
 |ok (a:α) (s:Sg)
 |ct (m:Str) (s:Sg)
 |stuck
section
variable {P:Prop}{α:Type}{a b:α}{s t:Sg}{m n:Str}
theorem Rq {P:α→Prop}:∀x∈([]:List α),P x:=fun _ q=>nomatch q
theorem d9 (h:false=true):P:=nomatch h
theorem Jw (h:true=false):P:=nomatch h
theorem bR (h:none=some a):P:=nomatch h
theorem Jx (h:some a=none):P:=nomatch h
theorem G1 (h:Res.ok a s=.ok b t):a=b∧s=t:=by cases h;exact ⟨rfl,rfl⟩
theorem Rr (h:(Res.ct m s:Res α)=.ct n t):m=n∧s=t:=by cases h;exact ⟨rfl,rfl⟩
theorem LG (h:Res.ok a s=.ct m t):P:=nomatch h
theorem OD (h:Res.ct m t=.ok a s):P:=nomatch h
theorem PY (h:Res.ok a s=.stuck):P:=nomatch h
theorem Mn (h:.stuck=Res.ok a s):P:=nomatch h
theorem Rt (h:(Res.ct m s:Res α)=.stuck):P:=nomatch h
theorem Mo (h:.stuck=(Res.ct m s:Res α)):P:=nomatch h
end
abbrev M (α:Type):=Sg→Res α
noncomputable def M.bind {α β:Type}(m:M α)(f:α→M β):M β:=fun s=>match m s with
 |.ok a s'=>f a s'
 |.ct e s'=>.ct e s'
 |.stuck=>.stuck
noncomputable def M.pure {α:Type}(a:α):M α:=fun s=>.ok a s
noncomputable instance:Monad M where
 pure:=M.pure
 bind:=M.bind
noncomputable def stuck {α:Type}:M α:=fun _=>.stuck
noncomputable def uD {α:Type}(m:Str):M α:=fun s=>.ct m s
set_option genCtorIdx true in
inductive Kd where
 |val|own|bg|h
 deriving DecidableEq
structure Ev where
 loc:Str→Option T
 own:List (Str×T×Kd):=[]
 mv:List Str:=[]
 cS:Bool:=false
noncomputable def upd (f:Str→Option T)(x:Str)(t:T):Str→Option T:=fun y=>if y=x then some t else f y
abbrev Calls:=Str→List T→M (T×Kd)
noncomputable def ay {α:Type}:Option α→M α
 |some a=>pure a
 |.none=>stuck
noncomputable def val (t:T):M (T×Kd):=pure (t,.val)
noncomputable def k4 (t:T):M (T×Kd):=pure (t,.own)
noncomputable def G2:Const→Option T
 |.none=>some .none
 |.bool b=>some (.bool b)
 |.int i=>some (.int i)
 |.str s=>some (.str s)
 |_=>.none
noncomputable def aO (i:Int):Bool:=decide (i.natAbs < 1000000000000000000)
noncomputable def aq:Nat:=1000
noncomputable def dy (op:Operator)(a b:T):Option (T×Kd):=
 match op,a,b with
 |.Add,.int x,.int y=>some (.int (x+y),.val)
 |.Sub,.int x,.int y=>some (.int (x - y),.val)
 |.Mult,.int x,.int y=>if aO x then some (.int (x * y),.val) else none
 |.FloorDiv,.int x,.int y=>if decide (y=0)||decide (1073741824≤y.natAbs) then none else some (.int (Int.fdiv x y),.val)
 |.Mod,.int x,.int y=>if y=0 then none else some (.int (Int.fmod x y),.val)
 |.Pow,.int x,.int y=>if decide (0≤y)&&decide (y≤30)&&aO x then some (.int (x ^ y.toNat),.val) else none
 |.Add,.str x,.str y=>if x.length+y.length≤aq then some (.str (x++y),.val) else none
 |.Add,.list x,.list y=>if x.length+y.length≤aq then some (.list (x++y),.own) else none
 |.Mult,.list [x],.int n=>if n≤aq∧-9223372036854775808≤n then some (.list (List.replicate n.toNat x),.own) else none
 |_,_,_=>none
noncomputable def fU:T→Bool
 |.none=>true
 |_=>false
noncomputable def jr (f:T→T→Option Bool):List T→List T→Option Bool
 |[],[]=>some true
 |a::r,b::s=>match f a b with
  |some true=>jr f r s
  |some false=>(match jr f r s with|some _=>some false|Option.none=>Option.none)
  |Option.none=>Option.none
 |_,_=>Option.none
noncomputable def uv (f:T→T→Option Bool):List (Str×T)→List (Str×T)→Option Bool
 |[],_=>some true
 |(k,a)::r,es=>match es.lookup k with
  |some b=>(match f a b with
   |some true=>uv f r es
   |some false=>(match uv f r es with|some _=>some false|Option.none=>Option.none)
   |Option.none=>Option.none)
  |Option.none=>some false
noncomputable def eqT:Nat→T→T→Option Bool
 |0,_,_=>Option.none
 |n+1,a,b=>match a,b with
  |.none,.none=>some true
  |.bool a,.bool b=>some (a == b)
  |.int a,.int b=>some (decide (a=b))
  |.str a,.str b=>some (decide (a=b))
  |.list a,.list b=>if a.length=b.length then jr (eqT n) a b else some false
  |.tup a,.tup b=>if a.length=b.length then jr (eqT n) a b else Option.none
  |.dict a,.dict b=>if a.length=b.length then uv (eqT n) a b else some false
  |.none,.str _=>some false
  |.none,.int _=>some false
  |.none,.list _=>some false
  |.str _,.none=>some false
  |.int _,.none=>some false
  |.list _,.none=>some false
  |.str _,.tup _=>some false
  |.tup _,.str _=>some false
  |.str _,.int _=>some false
  |.int _,.str _=>some false
  |.list _,.str _=>some false
  |.str _,.list _=>some false
  |_,_=>Option.none
noncomputable def wC:Nat:=9
noncomputable def fV:T→Bool
 |.str _=>true
 |.none=>true
 |.int _=>true
 |_=>false
noncomputable def qA (k:Str):T→Bool
 |.str x=>decide (x=k)
 |_=>false
noncomputable def rW (x:T)(ts:List T):Option Bool:=match x with
 |.str k=>if ts.all fV then some (ts.any (qA k)) else none
 |.none=>if ts.all fV then some (ts.any fU) else none
 |_=>none
noncomputable def jE (f:Int→Int→Bool)(a b:T):Option Bool:=match a with
 |.int x=>(match b with
  |.int y=>some (f x y)
  |_=>Option.none)
 |_=>Option.none
noncomputable def Jy (a b:T):Option Bool:=match b with
 |.none=>some (fU a)
 |_=>Option.none
noncomputable def Jz (a b:T):Option Bool:=match b with
 |.list ts=>rW a ts
 |.tup ts=>rW a ts
 |.dict es=>(match a with
  |.str k=>some (es.lookup k).isSome
  |_=>Option.none)
 |_=>Option.none
noncomputable def qB (op:CmpOp)(a b:T):Option Bool:=
 match op with
 |.Lt=>jE (fun x y=>decide (x < y)) a b
 |.LtE=>jE (fun x y=>decide (x≤y)) a b
 |.Gt=>jE (fun x y=>decide (y < x)) a b
 |.GtE=>jE (fun x y=>decide (y≤x)) a b
 |.Is=>Jy a b
 |.IsNot=>(Jy a b).map (!·)
 |.Eq=>eqT wC a b
 |.NotEq=>(eqT wC a b).map (!·)
 |.In=>Jz a b
 |.NotIn=>(Jz a b).map (!·)
noncomputable def JA (op:CmpOp)(a b:T):M T:=fun s=>
 match op,a,b with
 |.NotEq,.row,.list []=>match s.row with
  |some r=>.ok (.bool (!r.isEmpty)) s
  |none=>.stuck
 |op,a,b=>match qB op a b with
  |some r=>.ok (.bool r) s
  |none=>.stuck
noncomputable def gA (v:T)(a:Str):M (T×Kd):=fun s=>
 match v with
 |.vec k ah at'=>if a="kind" then .ok (.str k,.val) s else if a="items" then .ok (.list ah,.val) s else if a="attrs" then .ok (at',.val) s else .stuck
 |.null=>if a="kind" then .ok (.str "NULL",.val) s else if a="attrs" then .ok (.none,.val) s else .stuck
 |.self=>match s.self with
  |some v=>if a="kind" then .ok (.str v.kind,.val) s else if a="items" then .ok (.list v.items,.val) s
    else if a="attrs" then (match v.attrs with|some es=>.ok (.dict es,.h) s|none=>.ok (.none,.val) s) else .stuck
  |none=>.stuck
 |_=>.stuck
noncomputable def ie (v i:T):M (T×Kd):=fun s=>
 match v,i with
 |.list ts,.int k=>if 0≤k then (match ts[k.toNat]? with|some t=>.ok (t,.val) s|none=>.stuck) else .stuck
 |.tup ts,.int k=>if 0≤k then (match ts[k.toNat]? with|some t=>.ok (t,.val) s|none=>.stuck) else .stuck
 |.dict es,.str k=>match es.lookup k with|some t=>.ok (t,.val) s|none=>.stuck
 |.str x,.int k=>if 0≤k∧k≤aq then (match x.cps[k.toNat]? with|some c=>.ok (.str ⟨#[c]⟩,.val) s|none=>.stuck) else .stuck
 |_,_=>.stuck
noncomputable def m9:Option T→Option (Option Nat)
 |.none=>some .none
 |some (.int k)=>if 0≤k then some (some k.toNat) else .none
 |_=>.none
noncomputable def fD (v:T)(lo hi:Option Nat):Option (T×Kd):=
 match v with
 |.list ts=>some (.list ((ts.take (hi.getD ts.length)).drop (lo.getD 0)),.own)
 |.str x=>if lo.getD 0≤hi.getD x.length∧hi.getD x.length≤x.length∧x.length≤aq then some (.str ⟨((x.cps.toList.drop (lo.getD 0)).take (hi.getD x.length - lo.getD 0)).toArray⟩,.val) else none
 |_=>none
noncomputable def o5 (v:T):M T:=fun s=>
 match v with
 |.list ts=>.ok (.int ts.length) s
 |.tup ts=>.ok (.int ts.length) s
 |.dict es=>.ok (.int es.length) s
 |.str x=>if x.length≤aq then .ok (.int x.length) s else .stuck
 |_=>.stuck
noncomputable def dz (a b:Int):List Int:=(List.range (b - a).toNat).map fun (i:Nat)=>a+(i:Int)
noncomputable def bc (i:Int):Str:=Str.ofString (toString i)
noncomputable def gB:T→Option (List T)
 |.list ts=>some ts
 |.tup ts=>some ts
 |.range a b=>if aO a&&aO b&&decide (b - a≤aq) then some ((dz a b).map .int) else none
 |.dict es=>some (es.map fun e=>.str e.1)
 |_=>none
noncomputable def iterM (v:T):M (List T):=ay (gB v)
noncomputable def jb (x:Str)(n:Nat)(c:Nat):Str:=⟨(List.replicate (n - x.length) c++x.cps.toList).toArray⟩
noncomputable def G3 (v:T)(m:Str):Bool:=match v with
 |.row=>m="pop"
 |.dict _=>m="get"
 |.str _=>m="rjust"∨m="join"
 |_=>false
noncomputable def iz (v:T)(m:Str)(as:List T):M (T×Kd):=fun s=>
 match v with
 |.row=>(match as with
  |[]=>if m="pop" then (match s.row with
   |some r=>(match r.getLast? with
    |some x=>.ok (.int x,.val) {s with row:=some r.dropLast}
    |none=>.stuck)
   |none=>.stuck) else .stuck
  |_=>.stuck)
 |.dict es=>(match as with
  |[a]=>(match a with
   |.str k=>if m="get" then .ok ((es.lookup k).getD .none,.val) s else .stuck
   |_=>.stuck)
  |_=>.stuck)
 |.str x=>(match as with
  |[a]=>(match a with
   |.list l=>(match l with
    |[y]=>(match y with
     |.str y=>if m="join"∧x.length≤aq∧y.length≤aq then .ok (.str y,.val) s else .stuck
     |_=>.stuck)
    |_=>.stuck)
   |_=>.stuck)
  |[a,b]=>(match a with
   |.int n=>(match b with
    |.str c=>if m="rjust" then
     (match c.cps.toList with
      |[c]=>if n≤aq∧0≤n then .ok (.str (jb x n.toNat c),.val) s else .stuck
      |_=>.stuck) else .stuck
    |_=>.stuck)
   |_=>.stuck)
  |_=>.stuck)
 |_=>.stuck
noncomputable def dX (f:Str)(as:List T):M (T×Kd):=
 match as with
 |[]=>stuck
 |[a]=>
  if f="str" then (match a with
   |.int i=>if aO i then val (.str (bc i)) else stuck
   |_=>stuck)
  else if f="list" then (match a with
   |.list ts=>k4 (.list ts)
   |.range a b=>if aO a&&aO b&&decide (b - a≤aq) then k4 (.list ((dz a b).map .int)) else stuck
   |_=>stuck)
  else if f="dict" then (match a with
   |.dict es=>k4 (.dict es)
   |_=>stuck)
  else if f="abs" then (match a with
   |.int i=>val (.int i.natAbs)
   |_=>stuck)
  else if f="range" then (match a with
   |.int n=>val (.range 0 n)
   |_=>stuck)
  else stuck
 |[a,b]=>
  if f="range" then (match a,b with
   |.int x,.int y=>val (.range x y)
   |_,_=>stuck)
  else if f="max" then (match a,b with
   |.int x,.int y=>val (.int (if x < y then y else x))
   |_,_=>stuck)
  else stuck
 |_=>stuck
noncomputable def builtins:List Str:=["len","str","list","dict","abs","range","max"]
noncomputable def ng:T→Option Bool
 |.vec ..=>some true
 |.self=>some true
 |.null=>some false
 |_=>none
noncomputable def nh:T→Option Bool
 |.str _=>some true
 |.list _|.dict _|.vec ..|.self|.null=>some false
 |_=>none
noncomputable def zN (c:Str)(as:List (T×Kd)):M (T×Kd):=
 if c="Null" then (match as with|[]=>val .null|_=>stuck)
 else (match as with
  |[(.str k,_),(.list ts,kd)]=>pure (.vec k ts .none,if kd=.own then .bg else .own)
  |[(.str k,_),(.list ts,_),(at',_)]=>pure (.vec k ts at',.own)
  |_=>stuck)
noncomputable def k6 (s:Scope):List Str:=s.names.filterMap fun (n,k)=>if k=.free then some n else none
noncomputable def inScope (s:Scope)(f:Str→Option T):Str→Option T:=fun y=>if y∈k6 s then f y else none
noncomputable def peek (L:Ev)(x:Str):Option T:=match L.own.lookup x with
 |some p=>some p.1
 |none=>L.loc x
noncomputable def dput (es:List (Str×T))(k:Str)(t:T):List (Str×T):=match es with
 |[]=>[(k,t)]
 |(k',t')::r=>if k'=k then (k',t)::r else (k',t')::dput r k t
noncomputable def cD (es:List (Str×T))(k:Str):List (Str×T):=match es with
 |[]=>[]
 |(k',t')::r=>if k'=k then r else (k',t')::cD r k
noncomputable def solid (t:T×Kd):M (T×Kd):=if t.2=.h then stuck else pure t
noncomputable def tests (f:T→M Bool)(g:T→M (T×Kd)):List T→M (List T)
 |[]=>pure []
 |t::r=>do
  if ←f t then
   let b ←solid (←g t)
   let bs ←tests f g r
   pure (b.1::bs)
  else tests f g r
noncomputable def bo (f:T→M Bool)(k:T→M (T×Kd))(g:T→M (T×Kd))(es:List (Str×T)):List T→M (List (Str×T))
 |[]=>pure es
 |t::r=>do
  if ←f t then
   match ←k t with
   |(.str x,_)=>do
    let b ←solid (←g t)
    bo f k g (dput es x b.1) r
   |_=>stuck
  else bo f k g es r
noncomputable def dJ (e:Nat)(s:Sg):Sg:={s with self:=s.self.map fun v=>{v with ep:=e}}
noncomputable def ba {α:Type}(k:Kd)(m:M α):M α:=fun s=>
 if k=.h then (match s.self with
  |some v=>(match m (dJ 0 s) with
   |.ok a s'=>(match s'.self with
    |some v'=>(match v'.ep with
     |0=>.ok a (dJ v.ep s')
     |_=>.stuck)
    |none=>.stuck)
   |_=>.stuck)
  |none=>.stuck)
 else m s
noncomputable def j1 {α:Type}(m:M α):M α:=fun s=>match m s with
 |.ct _ _=>.stuck
 |r=>r
noncomputable def quiet {α:Type}(k:Kd)(f:T→M α):T→M α:=fun t=>j1 (ba k (f t))
noncomputable def dA (m:M (T×Kd)):M (T×Kd):=fun s=>match m s with
 |.ct e s'=>.ok (.str e,.val) s'
 |.ok (t,k) s'=>if k=.h then .stuck else .ok (t,.val) s'
 |r=>r
noncomputable def optName:Expr→Option Str
 |.Name x _=>some x
 |_=>none
noncomputable def gC (L:Ev)(e:Expr)(whole:M (T×Kd)):M T:=
 match optName e with
 |some x=>ay (peek L x)
 |none=>do return (←whole).1
noncomputable def ig (L:Ev)(op:CmpOp)(e:Expr)(whole:M (T×Kd)):M T:=
 if op=.In then gC L e whole else do return (←solid (←whole)).1
noncomputable def fi (op:CmpOp)(a:T×Kd)(b:T):M T:=
 if a.2=.h then
  (match op,b with
   |.Is,.none=>pure (.bool false)
   |.IsNot,.none=>pure (.bool true)
   |_,_=>stuck)
 else JA op a.1 b
noncomputable def l8 (G:Calls)(f:Str)(ts:List (T×Kd)):M (T×Kd):=
 if f="Null"∨f="Vector" then zN f ts
 else if f∈builtins then dX f (ts.map (·.1))
 else G f (ts.map (·.1))
noncomputable def jy (l:List T)(src:Kd)(f:T→M Bool)(g:T→M (T×Kd)):M (T×Kd):=do
 let r ←tests (quiet src f) (quiet src g) l
 k4 (.list r)
noncomputable def l9 (l:List T)(src:Kd)(f:T→M Bool)(k g:T→M (T×Kd)):M (T×Kd):=do
 let r ←bo (quiet src f) (quiet src k) (quiet src g) [] l
 k4 (.dict r)
noncomputable def inner (L:Ev)(sc:Scope)(x:Str)(t:T):Ev:={loc:=upd (inScope sc L.loc) x t}
noncomputable def Dg (t:T×Kd):M (T×Kd):=match t with
 |(.int i,_)=>val (.int (-i))
 |_=>stuck
noncomputable def zO (t:T×Kd):M (T×Kd):=match t with
 |(.int i,_)=>if aO i then val (.str (bc i)) else stuck
 |_=>stuck
noncomputable def eI (t:T×Kd):M Bool:=match t with
 |(.bool b,_)=>pure b
 |_=>stuck
noncomputable def jF (t:T×Kd):M Str:=match t with
 |(.str x,_)=>pure x
 |_=>stuck
noncomputable def nj (c:Str)(t:T):M (T×Kd):=
 if c="Vector" then do val (.bool (←ay (ng t)))
 else if c="str" then do val (.bool (←ay (nh t)))
 else stuck
noncomputable def Mp:List (M Str)→List (M (T×Kd))→M (List (Str×T))
 |[],[]=>pure []
 |k::ks,v::vs=>do
  let x ←k
  let t ←solid (←v)
  let es ←Mp ks vs
  pure ((x,t.1)::es)
 |_,_=>stuck
noncomputable def zP:List (M (T×Kd))→M (List (T×Kd))
 |[]=>pure []
 |v::vs=>do
  let t ←solid (←v)
  let ts ←zP vs
  pure (t::ts)
noncomputable def nameOf:Expr→Option Str
 |.Name c _=>some c
 |_=>none
noncomputable def gD (G:Calls)(L:Ev)(f:Str)(as:List Expr)(vs:List (M (T×Kd))):M (T×Kd):=
 if f="len" then (match as,vs with
  |[a],[va]=>do val (←o5 (←gC L a va))
  |_,_=>stuck)
 else if f="isinstance" then (match as,vs with
  |[a,b],[va,_]=>(match nameOf b with
   |some c=>do nj c (←gC L a va)
   |none=>stuck)
  |_,_=>stuck)
 else do l8 G f (←zP vs)
noncomputable def wD (x:Str):Option T:=if x="MOST_LENGTH" then some (.int 1000000) else none
noncomputable def wF (L:Ev)(x:Str):Option T:=match L.loc x with
 |some t=>some t
 |none=>wD x
noncomputable def JB:Expr→Bool
 |.Lambda ..=>true
 |_=>false
noncomputable def gO:List Expr→Bool
 |[a]=>JB a
 |_=>false
mutual
noncomputable def ag (G:Calls)(L:Ev):Expr→M (T×Kd)
 |.Constant c _ _=>do val (←ay (G2 c))
 |.Name x _=>do val (←ay (wF L x))
 |.BinOp l op r _=>do
  let a ←ag G L l
  let b ←ag G L r
  ay (dy op a.1 b.1)
 |.UnaryOp op x _=>match op with
  |.USub=>do Dg (←ag G L x)
  |_=>stuck
 |.IfExp t b o _=>do
  if ←bO G L t (ag G L t) then ag G L b else ag G L o
 |.Compare l ops rs _=>match ops with
  |[op]=>(match rs with
   |[r]=>do
    let a ←ag G L l
    let b ←ig L op r (ag G L r)
    val (←fi op a b)
   |_=>stuck)
  |_=>stuck
 |.Call f as _ _=>match f with
  |.Attribute o m _=>do
   let v ←ag G L o
   if G3 v.1 m then do
    let ts ←ba v.2 (br G L as)
    iz v.1 m (ts.map (·.1))
   else stuck
  |.Name f _=>if gO as=true then (match as with
   |[a]=>(match a with
    |.Lambda _ b sc _=>if f="_law_kept" then dA (ag G {loc:=inScope sc L.loc} b) else stuck
    |_=>stuck)
   |_=>stuck) else gD G L f as (gP G L as)
  |_=>stuck
 |.Attribute o a _=>do
  let v ←ag G L o
  gA v.1 a
 |.Subscript v i _=>match i with
  |.Slice lo hi _ _=>do
   let t ←ag G L v
   let l ←jz G L lo
   let h ←jz G L hi
   ay (fD t.1 l h)
  |i=>do
   let t ←ag G L v
   let k ←ba t.2 (ag G L i)
   ie t.1 k.1
 |.List es _=>do
  let ts ←br G L es
  k4 (.list (ts.map (·.1)))
 |.Tuple es _ _=>do
  let ts ←br G L es
  val (.tup (ts.map (·.1)))
 |.Dict ks vs _=>do
  let es ←Mp (uE G L ks) (gP G L vs)
  if (es.map (·.1)).Nodup then k4 (.dict es) else stuck
 |.ListComp elt gs sc _=>match gs with
  |[⟨t,it,ifs,_⟩]=>(match t with
   |.Name x _=>do
    let s ←ag G L it
    let l ←iterM s.1
    jy l s.2 (fun t=>cE G (inner L sc x t) ifs) (fun t=>ag G (inner L sc x t) elt)
   |_=>stuck)
  |_=>stuck
 |.DictComp k v gs sc _=>match gs with
  |[⟨t,it,ifs,_⟩]=>(match t with
   |.Name x _=>do
    let s ←ag G L it
    let l ←iterM s.1
    l9 l s.2 (fun t=>cE G (inner L sc x t) ifs) (fun t=>ag G (inner L sc x t) k) (fun t=>ag G (inner L sc x t) v)
   |_=>stuck)
  |_=>stuck
 |.JoinedStr vs _=>do
  val (.str (←fE G L vs Str.empty))
 |.FormattedValue v _ _ _=>do zO (←ag G L v)
 |_=>stuck
noncomputable def bO (G:Calls)(L:Ev):Expr→M (T×Kd)→M Bool
 |.UnaryOp .Not x _,_=>do return !(←bO G L x (ag G L x))
 |.BoolOp .And vs _,_=>evalAnd G L vs
 |.BoolOp .Or vs _,_=>evalOr G L vs
 |_,whole=>do eI (←whole)
noncomputable def evalAnd (G:Calls)(L:Ev):List Expr→M Bool
 |[]=>pure true
 |e::r=>do if ←bO G L e (ag G L e) then evalAnd G L r else pure false
noncomputable def evalOr (G:Calls)(L:Ev):List Expr→M Bool
 |[]=>pure false
 |e::r=>do if ←bO G L e (ag G L e) then pure true else evalOr G L r
noncomputable def cE (G:Calls)(L:Ev):List Expr→M Bool
 |[]=>pure true
 |e::r=>do if ←bO G L e (ag G L e) then cE G L r else pure false
noncomputable def jz (G:Calls)(L:Ev):Option Expr→M (Option Nat)
 |none=>pure none
 |some e=>do
  let t ←ag G L e
  ay (m9 (some t.1))
noncomputable def br (G:Calls)(L:Ev):List Expr→M (List (T×Kd))
 |[]=>pure []
 |e::r=>do
  let t ←solid (←ag G L e)
  let ts ←br G L r
  pure (t::ts)
noncomputable def F3 (G:Calls)(L:Ev):Option Expr→M Str
 |none=>stuck
 |some e=>do jF (←ag G L e)
noncomputable def uE (G:Calls)(L:Ev):List (Option Expr)→List (M Str)
 |[]=>[]
 |k::ks=>F3 G L k::uE G L ks
noncomputable def gP (G:Calls)(L:Ev):List Expr→List (M (T×Kd))
 |[]=>[]
 |v::vs=>ag G L v::gP G L vs
noncomputable def fE (G:Calls)(L:Ev):List Expr→Str→M Str
 |[],out=>pure out
 |e::r,out=>do
  let x ←jF (←ag G L e)
  if (out++x).length≤aq then fE G L r (out++x) else stuck
end
mutual
noncomputable def ej (x:Str):Expr→Bool
 |.Name y _=>y=x
 |.Call (.Name f _) [.Name y _] _ _=>if f="len" then false else y=x
 |.Call f as _ _=>ej x f||j5 x as
 |.Compare l [op] [.Name y _] _=>ej x l||(if op=.In then false else y=x)
 |.Compare l _ rs _=>ej x l||j5 x rs
 |.BinOp l _ r _=>ej x l||ej x r
 |.BoolOp _ vs _=>j5 x vs
 |.UnaryOp _ e _=>ej x e
 |.IfExp a b c _=>ej x a||ej x b||ej x c
 |.Lambda _ b _ _=>ej x b
 |.Dict _ vs _=>j5 x vs
 |.List es _=>j5 x es
 |.Tuple es _ _=>j5 x es
 |.ListComp e gs _ _=>ej x e||zQ x gs
 |.DictComp k v gs _ _=>ej x k||ej x v||zQ x gs
 |.JoinedStr es _=>j5 x es
 |.FormattedValue e _ _ _=>ej x e
 |.Attribute e _ _=>ej x e
 |.Subscript e i _=>ej x e||ej x i
 |.Slice a b c _=>G4 x a||G4 x b||G4 x c
 |_=>false
noncomputable def j5 (x:Str):List Expr→Bool
 |[]=>false
 |e::r=>ej x e||j5 x r
noncomputable def G4 (x:Str):Option Expr→Bool
 |none=>false
 |some e=>ej x e
noncomputable def Mq (x:Str):Comprehension→Bool
 |⟨_,it,ifs,_⟩=>ej x it||j5 x ifs
noncomputable def zQ (x:Str):List Comprehension→Bool
 |[]=>false
 |g::r=>Mq x g||zQ x r
end
noncomputable def bE (e:Expr):List (Str×T×Kd)→(Str→Option T)→(Str→Option T)×List (Str×T×Kd)
 |[],loc=>(loc,[])
 |(x,t,k)::r,loc=>
  let p:=bE e r loc
  if ej x e then (upd p.1 x t,p.2) else (p.1,(x,t,k)::p.2)
noncomputable def settle (e:Expr)(L:Ev):Ev:=match L.own with
 |[]=>L
 |o=>{L with loc:=(bE e o L.loc).1,own:=(bE e o L.loc).2}
inductive Out where
 |next|cont|ret (t:T) (k:Kd)
 deriving Inhabited
noncomputable def iA (x:Str)(o:List (Str×T×Kd)):List (Str×T×Kd):=o.filter fun p=>p.1≠x
noncomputable def Ev.ax (L:Ev)(x:Str)(t:T):Ev:={L with loc:=upd L.loc x t,own:=iA x L.own}
noncomputable def Ev.gQ (L:Ev)(x:Str)(t:T)(k:Kd):Ev:={L with loc:=fun y=>if y=x then none else L.loc y,own:=(x,t,k)::iA x L.own}
noncomputable def Ev.bL (L:Ev)(x:Str)(t:T):Ev:={L with own:=L.own.map fun p=>if p.1=x then (p.1,t,p.2.2) else p}
noncomputable def intsOf:List T→Option (List Int)
 |[]=>some []
 |.int i::r=>(intsOf r).map (i::·)
 |_=>none
noncomputable def bindM (L:Ev)(x:Str)(t:T×Kd):M Ev:=fun s=>
 if L.cS&&(x="row":Bool) then
  (match t with
   |(.list ts,.own)=>(match intsOf ts with
    |some r=>if s.row.isNone∧r.length≤aq then .ok (L.ax x .row) {s with row:=some r} else .stuck
    |none=>.stuck)
   |_=>.stuck)
 else if L.cS&&(x="v":Bool) then
  (match t with
   |(.vec k ah .none,.own)=>if s.self.isNone then .ok (L.ax x .self) {s with self:=some ⟨k,ah,none,0⟩} else .stuck
   |(.vec k ah .none,.bg)=>if s.self.isNone then .ok (L.ax x .self) {s with self:=some ⟨k,ah,none,0⟩} else .stuck
   |(.null,_)=>.ok (L.ax x .null) s
   |_=>.stuck)
 else if t.2≠.val∧x∈L.mv then .ok (L.gQ x t.1 t.2) s
 else .ok (L.ax x t.1) s
noncomputable def nq (t:T)(m:Str):Bool:=match t with
 |.list _=>m="append"∨m="reverse"
 |.dict _=>m="pop"
 |_=>false
noncomputable def Mr:T→Option Str
 |.str k=>some k
 |_=>none
noncomputable def Dh:List T→Option Str
 |[a,b]=>if fU b then Mr a else none
 |_=>none
noncomputable def Di (ts:List T)(m:Str):List T→Option T
 |[a]=>if m="append"∧ts.length < 2000 then some (.list (ts++[a])) else none
 |[]=>if m="reverse" then some (.list ts.reverse) else none
 |_=>none
noncomputable def gh (t:T)(m:Str)(as:List T):Option T:=match t with
 |.list ts=>Di ts m as
 |.dict es=>if m="pop" then (Dh as).map fun k=>.dict (cD es k) else none
 |_=>none
noncomputable def bj (s:Sg)(v:aM)(a:Option (List (Str×T))):Sg:={s with self:=some {v with attrs:=a,ep:=v.ep+1}}
noncomputable def j6:T→Bool
 |.bool _=>true
 |_=>false
noncomputable def o6 (op:Operator)(a b:T):Option T:=match op,a,b with
 |.Add,.int x,.int y=>some (.int (x+y))
 |.Sub,.int x,.int y=>some (.int (x - y))
 |_,_,_=>none
noncomputable def eu (L:Ev)(x a:Str)(t:T×Kd):M Ev:=fun s=>
 match L.own.lookup x with
 |some (.vec k ah _,_)=>(if a="attrs" then .ok (L.bL x (.vec k ah t.1)) s else .stuck)
 |some _=>.stuck
 |none=>match L.loc x with
  |some .self=>(match s.self with
   |some v=>(if a="attrs" then
     (match t with
      |(.none,_)=>.ok L (bj s v none)
      |(.dict es,.own)=>.ok L (bj s v (some es))
      |_=>.stuck)
    else .stuck)
   |none=>.stuck)
  |some (.vec ..)=>if a="shared"∧j6 t.1=true then .ok L s else .stuck
  |_=>.stuck
noncomputable def eJ (L:Ev)(x:Str)(es:List (Str×T))(k t:T):M Ev:=match k with
 |.str k=>if es.length < aq then pure (L.bL x (.dict (dput es k t))) else stuck
 |_=>stuck
noncomputable def bK:M Unit:=fun s=>match s.self with
 |some v=>(match v.attrs with
  |some _=>.ok () s
  |none=>.stuck)
 |none=>.stuck
noncomputable def eF (L:Ev)(k t:T):M Ev:=fun s=>
 match k with
 |.str k=>(match s.self with
  |some v=>(match v.attrs with
   |some es=>if es.length < aq then .ok L (bj s v (some (dput es k t))) else .stuck
   |none=>.stuck)
  |none=>.stuck)
 |_=>.stuck
noncomputable def j7 (L:Ev)(k:T):M Ev:=fun s=>
 match k with
 |.str k=>(match s.self with
  |some v=>(match v.attrs with
   |some es=>if (es.lookup k).isSome then .ok L (bj s v (some (cD es k))) else .stuck
   |none=>.stuck)
  |none=>.stuck)
 |_=>.stuck
noncomputable def bS:List Expr→Option (List Str)
 |[]=>some []
 |.Name x _::r=>(bS r).map (x::·)
 |_=>none
noncomputable def bindAll (L:Ev):List Str→List T→Ev
 |x::xs,t::ts=>bindAll (L.ax x t) xs ts
 |_,_=>L
noncomputable def forL (x:Str)(f:Ev→M (Out×Ev)):List T→Ev→M (Out×Ev)
 |[],L=>pure (.next,L)
 |t::r,L=>do
  match ←f (L.ax x t) with
  |(.ret t k,L')=>pure (.ret t k,L')
  |(_,L')=>forL x f r L'
noncomputable def iB (e:Expr)(t:Ev→M Bool)(f:Ev→M (Out×Ev)):Nat→Ev→M (Out×Ev)
 |0,_=>stuck
 |n+1,L=>do
  if ←t (settle e L) then
   match ←f (settle e L) with
   |(.ret t k,L')=>pure (.ret t k,L')
   |(_,L')=>iB e t f n L'
  else pure (.next,settle e L)
noncomputable def dK:Nat:=40
noncomputable def dO (k:Kd):M Unit:=if k=.h then stuck else pure ()
inductive mE where
 |name (x:Str)|attr (x a:Str)|key (x:Str) (i:Expr)|uF (x a:Str) (i:Expr)|tup (ns:List Expr)|no
noncomputable def Ms (i:Expr):Expr→mE
 |.Name x _=>.key x i
 |.Attribute o a _=>match optName o with
  |some x=>.uF x a i
  |none=>.no
 |_=>.no
noncomputable def Mt:Expr→mE
 |.Name x _=>.name x
 |.Attribute o a _=>match optName o with
  |some x=>.attr x a
  |none=>.no
 |.Subscript o i _=>Ms i o
 |.Tuple ns _ _=>.tup ns
 |_=>.no
noncomputable def k7:List Expr→mE
 |[t]=>Mt t
 |_=>.no
inductive JC where
 |one (x m:Str) (as:List Expr) (p:Pos)|two (x a m:Str) (as:List Expr) (p:Pos)|no
noncomputable def Mu (m:Str)(as:List Expr)(p:Pos):Expr→JC
 |.Name x _=>.one x m as p
 |.Attribute o a _=>match optName o with
  |some x=>.two x a m as p
  |none=>.no
 |_=>.no
noncomputable def Mv (as:List Expr)(p:Pos):Expr→JC
 |.Attribute o m _=>Mu m as p o
 |_=>.no
noncomputable def C2:Expr→JC
 |.Call f as _ p=>Mv as p f
 |_=>.no
noncomputable def wG:Expr→Option (Str×Expr)
 |.Call f as _ _=>match optName f,as with
  |some c,[e]=>some (c,e)
  |_,_=>none
 |_=>none
noncomputable def gR:Option Expr→Option Expr→Option (Str×Expr)
 |some e,none=>wG e
 |_,_=>none
noncomputable def nr (G:Calls)(L:Ev)(e:Expr):M (Out×Ev):=match C2 e with
 |.one x m as p=>(match (settle (.Tuple as 0 p) L).own.lookup x with
  |some (t,_)=>if nq t m then do
   let ts ←br G (settle (.Tuple as 0 p) L) as
   let t ←ay (gh t m (ts.map (·.1)))
   pure (.next,(settle (.Tuple as 0 p) L).bL x t) else stuck
  |none=>stuck)
 |.two x a m as p=>(match (settle (.Tuple as 0 p) L).own.lookup x with
  |some (.vec k ah at',.bg)=>if a="items"∧m="append"∧ah.length < aq then do
   let ts ←br G (settle (.Tuple as 0 p) L) as
   match ts.map (·.1) with
   |[t]=>pure (.next,(settle (.Tuple as 0 p) L).bL x (.vec k (ah++[t]) at'))
   |_=>stuck
   else stuck
  |_=>stuck)
 |.no=>do
  let _ ←ag G (settle e L) e
  pure (.next,settle e L)
noncomputable def retS (G:Calls)(L:Ev):Option Expr→M (Out×Ev)
 |none=>pure (.ret .none .val,L)
 |some e=>match optName e with
  |some x=>(match L.own.lookup x with
   |some (t,k)=>pure (.ret t k,L)
   |none=>do
    let t ←ag G L e
    pure (.ret t.1 t.2,L))
  |none=>do
   let t ←solid (←ag G (settle e L) e)
   pure (.ret t.1 t.2,settle e L)
noncomputable def zR (G:Calls)(L:Ev)(v:Expr)(p:Pos):mE→M (Out×Ev)
 |.name x=>do
  let t ←solid (←ag G (settle v L) v)
  let L' ←bindM (settle v L) x t
  pure (.next,L')
 |.attr x a=>if a="attrs"∨a="shared" then do
  let t ←solid (←ag G (settle v L) v)
  let L' ←eu (settle v L) x a t
  pure (.next,L') else stuck
 |.key x i=>match (settle (.Tuple [v,i] 0 p) L).own.lookup x with
  |some (.dict es,_)=>do
   let t ←solid (←ag G (settle (.Tuple [v,i] 0 p) L) v)
   let k ←ag G (settle (.Tuple [v,i] 0 p) L) i
   let L' ←eJ (settle (.Tuple [v,i] 0 p) L) x es k.1 t.1
   pure (.next,L')
  |_=>stuck
 |.uF x a i=>match L.loc x with
  |some .self=>if a="attrs" then do
   let t ←solid (←ag G (settle (.Tuple [v,i] 0 p) L) v)
   bK
   let k ←ba .h (ag G (settle (.Tuple [v,i] 0 p) L) i)
   let L' ←eF (settle (.Tuple [v,i] 0 p) L) k.1 t.1
   pure (.next,L') else stuck
  |_=>stuck
 |.tup ns=>do
  let xs ←ay (bS ns)
  match ←ag G (settle v L) v with
  |(.tup ts,_)=>if ts.length=xs.length then pure (.next,bindAll (settle v L) xs ts) else stuck
  |_=>stuck
 |.no=>stuck
noncomputable def zS (G:Calls)(L:Ev)(op:Operator)(v:Expr):Option Str→M (Out×Ev)
 |some x=>do
  let a ←ay (L.loc x)
  let b ←ag G (settle v L) v
  let c ←ay (o6 op a b.1)
  pure (.next,(settle v L).ax x c)
 |none=>stuck
noncomputable def zT (G:Calls)(L:Ev):mE→M (Out×Ev)
 |.uF x a i=>match L.loc x with
  |some .self=>if a="attrs" then do
   bK
   let k ←ba .h (ag G (settle i L) i)
   let L' ←j7 (settle i L) k.1
   pure (.next,L') else stuck
  |_=>stuck
 |_=>stuck
noncomputable def nt (G:Calls)(L:Ev):Option (Str×Expr)→M (Out×Ev)
 |some (c,e)=>if c="Refusal" then do
   let x ←jF (←ag G (settle e L) e)
   uD x
  else stuck
 |none=>stuck
mutual
noncomputable def cn (G:Calls):Stmt→Ev→M (Out×Ev)
 |.Expr e _,L=>nr G L e
 |.Pass _,L=>pure (.next,L)
 |.Continue _,L=>pure (.cont,L)
 |.Return v _,L=>retS G L v
 |.Assign ts v p,L=>zR G L v p (k7 ts)
 |.AugAssign t op v _,L=>zS G L op v (optName t)
 |.Delete ts _,L=>zT G L (k7 ts)
 |.If t b o _,L=>do
  if ←bO G (settle t L) t (ag G (settle t L) t) then ak G b (settle t L) else ak G o (settle t L)
 |.For t it b e _,L=>match optName t with
  |some x=>(match e with
   |[]=>do
    let s ←ag G (settle it L) it
    dO s.2
    let l ←iterM s.1
    let r ←forL x (fun L=>ak G b L) l (settle it L)
    match r with
    |(.cont,L')=>pure (.next,L')
    |r=>pure r
   |_=>stuck)
  |none=>stuck
 |.While t b e _,L=>match e with
  |[]=>iB t (fun L=>bO G L t (ag G L t)) (fun L=>ak G b L) dK L
  |_=>stuck
 |.Raise e c _,L=>nt G L (gR e c)
 |_,_=>stuck
noncomputable def ak (G:Calls):List Stmt→Ev→M (Out×Ev)
 |[],L=>pure (.next,L)
 |s::r,L=>do
  match ←cn G s L with
  |(.next,L')=>ak G r L'
  |o=>pure o
end
mutual
noncomputable def JD:Stmt→List Str
 |.Expr (.Call (.Attribute (.Name x _) m _) _ _ _) _=>if m∈(["append","reverse","pop"]:List Str) then [x] else []
 |.Expr (.Call (.Attribute (.Attribute (.Name x _) a _) m _) _ _ _) _=>if a="items"∧m="append" then [x] else []
 |.Assign [.Attribute (.Name x _) a _] _ _=>if a="attrs" then [x] else []
 |.Assign [.Subscript (.Name x _) _ _] _ _=>[x]
 |.If _ b o _=>ew b++ew o
 |.For _ _ b _ _=>ew b
 |.While _ b _ _=>ew b
 |_=>[]
noncomputable def ew:List Stmt→List Str
 |[]=>[]
 |s::r=>JD s++ew r
end
structure Fn where
 params:List Str
 body:List Stmt
noncomputable def wH (n:Str):Stmt→Option Fn
 |.FunctionDef m a b ..=>if m=n then some ⟨a.args.map (·.arg),b⟩ else none
 |_=>none
noncomputable def fnOf (n:Str):Option Fn:=PySem.Challenge.pw_nz0494_01.main.body.findSome? (wH n)
noncomputable def gj:List Str→List T→Str→Option T
 |x::xs,t::ts=>upd (gj xs ts) x t
 |_,_=>fun _=>none
noncomputable def xY:Out→M (T×Kd)
 |.next=>val .none
 |.ret t k=>pure (t,k)
 |.cont=>stuck
noncomputable def fF (G:Calls)(cS:Bool)(fn:Fn)(as:List T):M (T×Kd):=
 if fn.params.length=as.length then do
  let r ←ak G fn.body {loc:=gj fn.params as,mv:=ew fn.body,cS:=cS}
  xY r.1
 else stuck
noncomputable def ae:Nat→Calls
 |0=>fun _ _=>stuck
 |d+1=>fun f as=>match fnOf f with
  |some fn=>fF (ae d) (decide (f="law")) fn as
  |none=>stuck
noncomputable def uG (aK:List Int):Res (T×Kd):=ae 30 "law" [.list (aK.map .int)] {}
end Mine.Internal
end
section
namespace Mine.Internal
open PySem PySem.W PyProof.Rows
structure Gh where
 obj:Addr→Option Obj
 gk:Addr→Option (Value×Value×Value)
 moves:Addr→Prop
 row:Option Addr
 self:Option (Addr×Addr)
 tab:Addr
structure Cx where
 w:World
 base:Heap
 mg:Str→Option Value
 mb:Str→Option Value
 vec:Addr
 nul:Addr
 exc:Addr
 K:Frag
 dB:Pos
 jc:Str
 code:Addr
 tab:Addr
noncomputable def Cx.H (c:Cx)(x:Str):Int:=PyData.keyHash c.w.params x
noncomputable abbrev aB (ds:List DictEntry)(n:Nat):Obj:={cls:=.type "dict",data:=.dict ds.toArray n}
noncomputable abbrev aG (vs:List Value)(n:Nat):Obj:={cls:=.type "list",data:=.seq vs.toArray n}
noncomputable abbrev k8 (vs:List Value)(n:Nat):Obj:={cls:=.type "tuple",data:=.seq vs.toArray n}
noncomputable abbrev G5 (a b:Int)(t u x:Tok):Obj:={cls:=.type "range",data:=.fields #[.int a t,.int b u,.int 1 x]}
inductive rQ (h:Heap) (a:Addr) (p:Obj→Prop):Prop
 |mk (o:Obj) (e:h.get? a=some o) (q:p o):rQ h a p
theorem rQ.keeps {h h':Heap}{a:Addr}{p:Obj→Prop}(x:rQ h a p)(k:∀o,h.get? a=some o→h'.get? a=some o):rQ h' a p:=by
 obtain ⟨o,e,q⟩:=x;exact ⟨o,k o e,q⟩
theorem rQ.ex {h:Heap}{a:Addr}{p:Obj→Prop}(x:rQ h a p):∃o,h.get? a=some o:=by
 obtain ⟨o,e,_⟩:=x;exact ⟨o,e⟩
noncomputable def dP (c:Cx)(ik ii ia:Value)(sh:Bool)(t1 t2 t3 t4 t5:Tok):List DictEntry:=
 [⟨c.H "kind",.str "kind" t1,ik⟩,⟨c.H "items",.str "items" t2,ii⟩,⟨c.H "attrs",.str "attrs" t3,ia⟩,⟨c.H "shared",.str "shared" t4,.bool sh⟩,⟨c.H "loose",.str "loose" t5,.bool false⟩]
inductive uw (c:Cx) (x:Value×Value×Value):Obj→Prop
 |mk (sh:Bool) (t1 t2 t3 t4 t5:Tok) (n:Nat):uw c x (aB (dP c x.1 x.2.1 x.2.2 sh t1 t2 t3 t4 t5) n)
abbrev bx (c:Cx)(h:Heap)(d:Addr)(x:Value×Value×Value):Prop:=rQ h d (uw c x)
inductive Dj (i:Int):Value→Prop
 |mk (t:Tok):Dj i (.int i t)
inductive rX (x:Str):Value→Prop
 |mk (t:Tok):rX x (.str x t)
inductive eK (G:Addr→Option Obj) (f:List Value→Nat→Obj) (R:List Value→Prop):Value→Prop
 |mk (a:Addr) (vs:List Value) (n:Nat) (e:G a=some (f vs n)) (z:vs.length≤sizeLine) (r:R vs):eK G f R (.ref a)
inductive gE (G:Addr→Option Obj) (ks:List Str) (R:List DictEntry→Prop):Value→Prop
 |mk (a:Addr) (ds:List DictEntry) (n:Nat) (m:(a == sysModules)=false) (e:G a=some (aB ds n)) (z:ds.length≤sizeLine) (nd:ks.Nodup) (r:R ds):gE G ks R (.ref a)
inductive qC (c:Cx) (G:Gh) (k:Str) (R:List Value→Prop) (R':Value→Prop):Value→Prop
 |mk (a d b:Addr) (t:Tok) (vs:List Value) (n:Nat) (ia:Value) (e:G.obj a=some (instObj c.vec d)) (i:G.gk d=some (.str k t,.ref b,ia)) (e':G.obj b=some (aG vs n)) (z:vs.length≤sizeLine) (r:R vs) (r':R' ia):qC c G k R R' (.ref a)
inductive qD (c:Cx) (G:Gh):Value→Prop
 |mk (a d:Addr) (t1 t2 t3:Tok) (n:Nat) (e:G.obj a=some (instObj c.nul d)) (e':G.obj d=some (aB [⟨c.H "kind",.str "kind" t1,.str "NULL" t3⟩,⟨c.H "attrs",.str "attrs" t2,.none⟩] n)):qD c G (.ref a)
inductive qE (G:Gh) (a b:Int):Value→Prop
 |mk (r:Addr) (t u x:Tok) (e:G.obj r=some (G5 a b t u x)):qE G a b (.ref r)
inductive rY (G:Gh):Value→Prop
 |mk (a:Addr) (e:G.row=some a):rY G (.ref a)
inductive o7 (G:Gh):Value→Prop
 |mk (a d:Addr) (e:G.self=some (a,d)):o7 G (.ref a)
inductive wI (p:Value→Prop) (q:List Value→Prop):List Value→Prop
 |mk (v:Value) (r:List Value) (h:p v) (h':q r):wI p q (v::r)
inductive md (c:Cx) (k:Str) (p:Value→Prop) (q:List DictEntry→Prop):List DictEntry→Prop
 |mk (v:Value) (t:Tok) (r:List DictEntry) (h:p v) (h':q r):md c k p q (⟨c.H k,.str k t,v⟩::r)
mutual
noncomputable def Rep (c:Cx)(G:Gh):T→Value→Prop
 |.none=>fun v=>v=.none
 |.bool b=>fun v=>v=.bool b
 |.int i=>Dj i
 |.str x=>rX x
 |.tup ts=>eK G.obj k8 (az c G ts)
 |.list ts=>eK G.obj aG (az c G ts)
 |.dict es=>gE G.obj (es.map (·.1)) (aW c G es)
 |.vec k ah at'=>qC c G k (az c G ah) (Rep c G at')
 |.null=>qD c G
 |.range a b=>qE G a b
 |.row=>rY G
 |.self=>o7 G
noncomputable def az (c:Cx)(G:Gh):List T→List Value→Prop
 |[]=>fun vs=>vs=[]
 |t::ts=>wI (Rep c G t) (az c G ts)
noncomputable def aW (c:Cx)(G:Gh):List (Str×T)→List DictEntry→Prop
 |[]=>fun ds=>ds=[]
 |(k,t)::r=>md c k (Rep c G t) (aW c G r)
end
structure Gh.Le (G G':Gh):Prop where
 obj:∀a o,G.obj a=some o→G'.obj a=some o
 gk:∀a o,G.gk a=some o→G'.gk a=some o
 moves:∀a,G.moves a→G'.moves a
 row:∀a,G.row=some a→G'.row=some a
 self:∀a,G.self=some a→G'.self=some a
 tab:G'.tab=G.tab
theorem Gh.Le.refl (G:Gh):G.Le G:=⟨fun _ _ e=>e,fun _ _ e=>e,fun _ e=>e,fun _ e=>e,fun _ e=>e,rfl⟩
theorem Gh.Le.trans {eL xZ JE:Gh}(x:eL.Le xZ)(y:xZ.Le JE):eL.Le JE:=
 ⟨fun a o e=>y.obj a o (x.obj a o e),fun a o e=>y.gk a o (x.gk a o e),fun a e=>y.moves a (x.moves a e),fun a e=>y.row a (x.row a e),fun a e=>y.self a (x.self a e),y.tab.trans x.tab⟩
theorem eK.mono {G G':Addr→Option Obj}{f:List Value→Nat→Obj}{R R':List Value→Prop}{v:Value}(x:eK G f R v)(l:∀a o,G a=some o→G' a=some o)(k:∀vs,R vs→R' vs):eK G' f R' v:=by
 induction x with|mk a vs n e z r=>?_;exact ⟨a,vs,n,l _ _ e,z,k _ r⟩
theorem gE.mono {G G':Addr→Option Obj}{ks:List Str}{R R':List DictEntry→Prop}{v:Value}(x:gE G ks R v)(l:∀a o,G a=some o→G' a=some o)(k:∀vs,R vs→R' vs):gE G' ks R' v:=by
 induction x with|mk a vs n m e z nd r=>?_;exact ⟨a,vs,n,m,l _ _ e,z,nd,k _ r⟩
section
variable {c:Cx}{G G':Gh}
mutual
theorem Rep.mono (l:G.Le G'):∀(t:T) (v:Value),Rep c G t v→Rep c G' t v
 |.none,_=>id
 |.bool _,_=>id
 |.int _,_=>id
 |.str _,_=>id
 |.tup ts,_=>fun h=>eK.mono h l.obj (az.mono l ts)
 |.list ts,_=>fun h=>eK.mono h l.obj (az.mono l ts)
 |.dict es,_=>fun h=>gE.mono h l.obj (aW.mono l es)
 |.vec k ah at',_=>fun h=>by
  induction h with|mk a d b t vs n ia e i e' z r r'=>?_
  exact qC.mk a d b t vs n ia (l.obj _ _ e) (l.gk _ _ i) (l.obj _ _ e') z (az.mono l ah vs r) (Rep.mono l at' ia r')
 |.null,_=>fun h=>by
  induction h with|mk a d t1 t2 t3 n e e'=>?_
  exact qD.mk a d t1 t2 t3 n (l.obj _ _ e) (l.obj _ _ e')
 |.range a b,_=>fun h=>by
  induction h with|mk r t u x e=>?_
  exact qE.mk r t u x (l.obj _ _ e)
 |.row,_=>fun h=>by
  induction h with|mk a e=>?_
  exact rY.mk a (l.row _ e)
 |.self,_=>fun h=>by
  induction h with|mk a d e=>?_
  exact o7.mk a d (l.self _ e)
theorem az.mono (l:G.Le G'):∀(ts:List T) (vs:List Value),az c G ts vs→az c G' ts vs
 |[],_=>id
 |t::ts,_=>fun h=>by
  induction h with|mk v r h1 h2=>?_
  exact wI.mk v r (Rep.mono l t v h1) (az.mono l ts r h2)
theorem aW.mono (l:G.Le G'):∀(es:List (Str×T)) (ds:List DictEntry),aW c G es ds→aW c G' es ds
 |[],_=>id
 |(k,t)::es,_=>fun h=>by
  induction h with|mk v tk r h1 h2=>?_
  exact md.mk v tk r (Rep.mono l t v h1) (aW.mono l es r h2)
end
theorem Rep.int {i:Int}{t:Tok}:Rep c G (.int i) (.int i t):=Dj.mk t
theorem Rep.str {x:Str}{t:Tok}:Rep c G (.str x) (.str x t):=rX.mk t
theorem Rep.me:Rep c G .none .none:=rfl
theorem Rep.bool {b:Bool}:Rep c G (.bool b) (.bool b):=rfl
section
variable {v:Value}
theorem Rep.int_inv {i:Int}(r:Rep c G (.int i) v):Dj i v:=r
theorem Rep.str_inv {x:Str}(r:Rep c G (.str x) v):rX x v:=r
theorem Rep.none_inv (r:Rep c G .none v):v=.none:=r
theorem Rep.bool_inv {b:Bool}(r:Rep c G (.bool b) v):v=.bool b:=r
theorem Rep.aX {ts:List T}(r:Rep c G (.list ts) v):eK G.obj aG (az c G ts) v:=r
theorem Rep.cu {ts:List T}(r:Rep c G (.tup ts) v):eK G.obj k8 (az c G ts) v:=r
theorem Rep.cI {es:List (Str×T)}(r:Rep c G (.dict es) v):gE G.obj (es.map (·.1)) (aW c G es) v:=r
end
theorem az.nil:az c G [] []:=rfl
theorem az.cons {t:T}{v:Value}{ts:List T}{vs:List Value}(h:Rep c G t v)(h':az c G ts vs):az c G (t::ts) (v::vs):=wI.mk v vs h h'
theorem az.one {t:T}{v:Value}(h:Rep c G t v):az c G [t] [v]:=az.cons h az.nil
theorem aW.nil:aW c G [] []:=rfl
theorem aW.cons {k:Str}{tk:Tok}{t:T}{v:Value}{es:List (Str×T)}{ds:List DictEntry}(h:Rep c G t v)(h':aW c G es ds):aW c G ((k,t)::es) (⟨c.H k,.str k tk,v⟩::ds):=md.mk v tk ds h h'
theorem az.length:∀{ts:List T} {vs:List Value},az c G ts vs→vs.length=ts.length
 |[],_,h=>congrArg List.length (show _=[] from h)
 |_::ts,_,h=>by
  induction h with|mk v r _ h2=>?_
  exact congrArg Nat.succ (az.length h2)
theorem aW.length:∀{es:List (Str×T)} {ds:List DictEntry},aW c G es ds→ds.length=es.length
 |[],_,h=>congrArg List.length (show _=[] from h)
 |(_,_)::es,_,h=>by
  induction h with|mk v tk r _ h2=>?_
  exact congrArg Nat.succ (aW.length h2)
theorem az.get:∀{ts:List T} {vs:List Value} {i:Nat} {t:T},az c G ts vs→ts[i]?=some t→∃v,vs[i]?=some v∧Rep c G t v
 |[],_,_,_,_,e=>nomatch e
 |t::ts,_,i,t',h,e=>by
  induction h with|mk v r h1 h2=>?_
  induction i with
  |zero=>induction Option.some.inj e;exact ⟨v,rfl,h1⟩
  |succ i=>exact az.get (ts:=ts) (vs:=r) (i:=i) h2 e
theorem az.append:∀{ts us:List T} {vs ws:List Value},az c G ts vs→az c G us ws→az c G (ts++us) (vs++ws)
 |[],_,_,_,h,h'=>by
  cases (show _=[] from h);exact h'
 |t::ts,us,_,ws,h,h'=>by
  induction h with|mk v r h1 h2=>?_
  exact az.cons h1 (az.append h2 h')
end
structure Loose (G:Gh) (a:Addr):Prop where
 o:G.obj a=none
 i:G.gk a=none
 m:¬G.moves a
inductive uH (c:Cx) (G:Gh) (h:Heap) (d:Addr) (es:List (Str×T)):Value→Prop
 |mk (D:Addr) (ds:List DictEntry) (n:Nat) (m:(D == sysModules)=false) (mv:G.moves D) (ne:D≠d) (e:h.get? D=some (aB ds n)) (z:ds.length≤sizeLine) (nd:(es.map (·.1)).Nodup) (r:aW c G es ds):uH c G h d es (.ref D)
def bW (c:Cx)(G:Gh)(h:Heap)(d:Addr):Option (List (Str×T))→Value→Prop
 |none=>fun v=>v=.none
 |some es=>uH c G h d es
inductive bT (c:Cx) (G:Gh) (h:Heap) (v:aM):Prop
 |mk (a d:Addr) (ii ia:Value) (t:Tok) (e:G.self=some (a,d)) (eo:G.obj a=some (instObj c.vec d)) (mv:G.moves d) (i:bx c h d (.str v.kind t,ii,ia)) (r:Rep c G (.list v.items) ii) (q:bW c G h d v.attrs ia):bT c G h v
inductive fg (G:Gh) (h:Heap) (ns:List Int):Prop
 |mk (r:Addr) (vs:List Value) (n:Nat) (e:G.row=some r) (mv:G.moves r) (g:h.get? r=some (aG vs n)) (i:IntsAre vs ns) (l:ns.length≤100000):fg G h ns
inductive rZ (c:Cx) (G:Gh) (ps:Array Value):Prop
 |mk (a:Addr) (o:Obj) (vs:Array Value) (t:Tok) (e:codeAmong c.dB ps.toList=some (.ref a)) (eo:G.obj a=some o) (d:o.data=.fields vs) (q:vs[1]?=some (.str c.jc t)):rZ c G ps
inductive ij (c:Cx) (G:Gh) (h:Heap):Prop
 |mk (mv:G.moves G.tab) (eq:G.tab=c.tab) (ps:Array Value) (e:h.get? G.tab=some (tabObj ps)) (tr:TriplesOk ps.toList) (q:codeAmong c.dB ps.toList=none∨rZ c G ps):ij c G h
def js {α:Type}(n:Prop)(f:α→Prop):Option α→Prop
 |none=>n
 |some a=>f a
theorem js.imp {α:Type}{n n':Prop}{f f':α→Prop}{o:Option α}(x:js n f o)(h:n→n')(k:∀a,f a→f' a):js n' f' o:=by
 induction o with
 |none=>exact h x
 |some a=>exact k a x
inductive zU (G:Gh) (h:Heap) (a:Addr):Prop
 |mk (o:G.obj a=none) (i:G.gk a=none) (x:Obj) (e:h.get? a=some x):zU G h a
structure St (c:Cx) (G:Gh) (σ:Sg) (h:Heap):Prop where
 base:∀a o,c.base.get? a=some o→G.obj a=some o
 obj:∀a o,G.obj a=some o→h.get? a=some o
 gk:∀d x,G.gk d=some x→bx c h d x
 apart:∀a,G.moves a→zU G h a
 apart2:∀a x,G.gk a=some x→G.obj a=none
 row:js (G.row=none) (fg G h) σ.row
 self:js (G.self=none) (bT c G h) σ.self
 tab:ij c G h
noncomputable def ai (A:Around):List Addr:=(A.frames.getD []).filterMap (·.frame)
inductive G6 (G:Gh) (h:Heap) (e:PySem.Env):Prop
 |mk (k:e.scope.kind≠.module) (F:Addr) (o:Obj) (q:e.frame=some F) (g:h.get? F=some o) (d:∀vs,o.data≠.fields vs) (l:Loose G F):G6 G h e
structure dW (A:Around) (G:Gh) (h:Heap):Prop where
 ok:∃l,A.frames=some l∧∀e∈l,G6 G h e
 handled:A.handled=none
structure Old (G G':Gh) (b:Addr):Prop where
 o:G'.obj b=G.obj b
 i:G'.gk b=G.gk b
 m:G'.moves b→G.moves b
structure Step (fr:List Addr) (G:Gh) (σ:Sg) (h:Heap) (G':Gh) (σ':Sg) (h':Heap):Prop where
 le:G.Le G'
 alive:∀b o,h.get? b=some o→∃o',h'.get? b=some o'
 keep:∀b o,h.get? b=some o→¬G.moves b→G.gk b=none→b∉fr→h'.get? b=some o
 frames:∀b o,b∈fr→h.get? b=some o→Loose G b→∃sl,h'.get? b=some {o with slots:=sl}
 old:∀b o,h.get? b=some o→Old G G' b
 eX:∀r,G'.row=some r→G.row=some r∨h.get? r=none
 ba:∀v v',σ.self=some v→σ'.self=some v'→v'.ep=v.ep→v'=v∧∀b,G.moves b→G.row≠some b→b≠G.tab→h'.get? b=h.get? b
 mono:∀v,σ.self=some v→∃v',σ'.self=some v'∧v.ep≤v'.ep
theorem Loose.old {fr:List Addr}{G G':Gh}{σ σ':Sg}{h h':Heap}(x:Step fr G σ h G' σ' h'){b:Addr}{o:Obj}(e:h.get? b=some o)(l:Loose G b):Loose G' b:=
 have y:=x.old b o e
 ⟨y.o.trans l.o,y.i.trans l.i,fun q=>l.m (y.m q)⟩
theorem Old.refl (G:Gh)(b:Addr):Old G G b:=⟨rfl,rfl,id⟩
theorem jG {σ:Sg}{h h':Heap}{G:Gh}(k:∀b,G.moves b→h'.get? b=h.get? b):∀v v',σ.self=some v→σ.self=some v'→v'.ep=v.ep→v'=v∧∀b,G.moves b→G.row≠some b→b≠G.tab→h'.get? b=h.get? b:=
 fun _ _ e e' _=>⟨Option.some.inj (e'.symm.trans e),fun b m _ _=>k b m⟩
theorem Step.refl (fr:List Addr)(G:Gh)(σ:Sg)(h:Heap):Step fr G σ h G σ h:=
 ⟨.refl G,fun _ o e=>⟨o,e⟩,fun _ _ e _ _ _=>e,fun _ o _ e _=>⟨o.slots,e⟩,fun b _ _=>.refl G b,fun _ e=>.inl e,jG fun _ _=>rfl,fun v e=>⟨v,e,Nat.le_refl _⟩⟩
section
variable {c:Cx}{fr:List Addr}{G eL xZ:Gh}{σ aa au:Sg}{h h₁ fj:Heap}
theorem dn {b:Addr}(k:∀o,h.get? b=some o→∃o',h₁.get? b=some o')(e:h₁.get? b=none):h.get? b=none:=by
 induction q:h.get? b with
 |none=>rfl
 |some o=>refine (k o q).elim fun o' e'=>?_;exact bR (e.symm.trans e')
theorem Step.r0 (S:St c G σ h)(x:Step fr G σ h eL aa h₁)(y:Step fr eL aa h₁ xZ au fj)(v r5:aM)(e:σ.self=some v)(JF:au.self=some r5)(q:r5.ep=v.ep):
  r5=v∧∀b,G.moves b→G.row≠some b→b≠G.tab→fj.get? b=h.get? b:=by
 obtain ⟨uI,G7,Mw⟩:=x.mono v e;obtain ⟨PZ,Mx,My⟩:=y.mono uI G7;induction Option.some.inj (JF.symm.trans Mx);have JG:uI.ep=v.ep:=Nat.le_antisymm (q▸My) Mw;obtain ⟨a1,a2⟩:=x.ba v uI e G7 JG;refine (y.ba uI r5 G7 JF (q.trans JG.symm)).elim fun b1 b2=>?_
 refine ⟨b1.trans a1,fun b hm hr ht=>(b2 b (x.le.moves b hm) (fun q=>?_) (fun q=>ht (q.trans x.le.tab))).trans (a2 b hm hr ht)⟩;rcases x.eX b q with q|q
 ·exact hr q
 ·obtain ⟨_,_,_,e⟩:=S.apart b hm;exact bR (q.symm.trans e)
theorem Step.trans (S:St c G σ h)(x:Step fr G σ h eL aa h₁)(y:Step fr eL aa h₁ xZ au fj):Step fr G σ h xZ au fj:=
 ⟨x.le.trans y.le,fun b o e=>(x.alive b o e).elim fun o' e'=>y.alive b o' e',fun b o e hm hi hf=>y.keep b o (x.keep b o e hm hi hf) (fun q=>hm ((x.old b o e).m q)) ((x.old b o e).i.trans hi) hf,
  fun b o hb e l=>(x.frames b o hb e l).elim fun sl e'=>(y.frames b {o with slots:=sl} hb e' (l.old x e)).elim fun Mz G8=>⟨Mz,G8⟩,
  fun b o e=>(x.alive b o e).elim fun o' e'=>⟨(y.old b o' e').o.trans (x.old b o e).o,(y.old b o' e').i.trans (x.old b o e).i,fun q=>(x.old b o e).m ((y.old b o' e').m q)⟩,
  fun r e=>(y.eX r e).elim (x.eX r) fun q=>.inr (dn (x.alive r) q),Step.r0 S x y,
  fun v e=>(x.mono v e).elim fun uI q=>(y.mono uI q.1).elim fun r5 q'=>⟨r5,q'.1,Nat.le_trans q.2 q'.2⟩⟩
theorem fg.keeps {ns:List Int}(x:fg G h ns)(k:∀b o,h.get? b=some o→h₁.get? b=some o):fg G h₁ ns:=by
 obtain ⟨r,vs,n,a1,a2,a3,a4,a5⟩:=x;exact ⟨r,vs,n,a1,a2,k _ _ a3,a4,a5⟩
theorem bx.keeps {d:Addr}{x:Value×Value×Value}(y:bx c h d x)(k:∀b o,h.get? b=some o→h₁.get? b=some o):bx c h₁ d x:=rQ.keeps y (k d)
theorem bW.keeps {d:Addr}{at':Option (List (Str×T))}{ia:Value}(y:bW c G h d at' ia)(k:∀b o,h.get? b=some o→h₁.get? b=some o):bW c G h₁ d at' ia:=by
 induction at' with
 |none=>exact y
 |some es=>
  induction y with|mk D ds n a1 a2 a3 a4 a5 a6 a7=>?_
  exact uH.mk D ds n a1 a2 a3 (k _ _ a4) a5 a6 a7
theorem bW.mono {d:Addr}{at':Option (List (Str×T))}{ia:Value}(y:bW c G h d at' ia)(l:G.Le eL):bW c eL h d at' ia:=by
 induction at' with
 |none=>exact y
 |some es=>
  induction y with|mk D ds n a1 a2 a3 a4 a5 a6 a7=>?_
  exact uH.mk D ds n a1 (l.moves _ a2) a3 a4 a5 a6 (aW.mono l _ _ a7)
theorem bT.keeps {v:aM}(x:bT c G h v)(k:∀b o,h.get? b=some o→h₁.get? b=some o):bT c G h₁ v:=by
 obtain ⟨a,d,ii,ia,t,a1,a2,a3,a4,a5,a6⟩:=x;exact ⟨a,d,ii,ia,t,a1,a2,a3,bx.keeps a4 k,a5,a6.keeps k⟩
theorem ij.keeps (x:ij c G h)(k:∀b o,h.get? b=some o→h₁.get? b=some o):ij c G h₁:=by
 obtain ⟨m,q,ps,e,r,y⟩:=x;exact ⟨m,q,ps,k _ _ e,r,y⟩
theorem rZ.mono {ps:Array Value}(x:rZ c G ps)(l:G.Le eL):rZ c eL ps:=by
 obtain ⟨a,o,vs,t,h1,h2,h3,h4⟩:=x;exact ⟨a,o,vs,t,h1,l.obj _ _ h2,h3,h4⟩
theorem ij.mono (x:ij c G h)(l:G.Le eL):ij c eL h:=by
 obtain ⟨m,m',ps,e,r,q⟩:=x;exact ⟨by rw [l.tab];exact l.moves _ m,l.tab.trans m',ps,by rw [l.tab];exact e,r,q.imp id fun y=>y.mono l⟩
theorem zU.keeps {a:Addr}(x:zU G h a)(k:∀b o,h.get? b=some o→h₁.get? b=some o):zU G h₁ a:=by
 obtain ⟨x1,x2,o,x3⟩:=x;exact ⟨x1,x2,o,k _ _ x3⟩
theorem zU.turn {a:Addr}(x:zU G h a)(ho:eL.obj a=G.obj a)(hi:eL.gk a=G.gk a):zU eL h a:=by
 obtain ⟨x1,x2,o,x3⟩:=x;exact ⟨ho.trans x1,hi.trans x2,o,x3⟩
theorem St.keeps (S:St c G σ h)(k:∀b o,h.get? b=some o→h₁.get? b=some o):St c G σ h₁:=
 ⟨S.base,fun a o e=>k _ _ (S.obj a o e),fun d x e=>bx.keeps (S.gk d x e) k,fun a e=>(S.apart a e).keeps k,S.apart2,S.row.imp id fun _ q=>q.keeps k,S.self.imp id fun _ q=>q.keeps k,S.tab.keeps k⟩
theorem Step.keeps (k:∀b o,h.get? b=some o→h₁.get? b=some o)(S:St c G σ h):Step fr G σ h G σ h₁:=
 ⟨.refl G,fun b o e=>⟨o,k b o e⟩,fun b o e _ _ _=>k b o e,fun b o _ e _=>⟨o.slots,k b o e⟩,fun b _ _=>.refl G b,fun _ e=>.inl e,
  jG fun b hm=>by obtain ⟨_,_,o,e⟩:=S.apart b hm;exact (k _ _ e).trans e.symm,fun v e=>⟨v,e,Nat.le_refl _⟩⟩
noncomputable def Gh.add (G:Gh)(a:Addr)(o:Obj):Gh:={G with obj:=fun b=>if b=a then some o else G.obj b}
theorem zV {α:Type}{f:Addr→Option α}{a:Addr}{o:α}(n:f a=none)(b:Addr)(o':α)(e:f b=some o'):(if b=a then some o else f b)=some o':=by
 rw [if_neg]
 ·exact e
 ·rintro rfl;exact bR (n.symm.trans e)
theorem Gh.dY {a:Addr}{o:Obj}(n:G.obj a=none):G.Le (G.add a o):=⟨zV n,fun _ _ e=>e,fun _ e=>e,fun _ e=>e,fun _ e=>e,rfl⟩
theorem Gh.dm {a:Addr}{o:Obj}:(G.add a o).obj a=some o:=if_pos rfl
theorem Gh.gm {a b:Addr}{o:Obj}(n:b≠a):(G.add a o).obj b=G.obj b:=if_neg n
theorem fg.mono {ns:List Int}(x:fg G h ns)(l:G.Le eL):fg eL h ns:=by
 obtain ⟨r,vs,n,a1,a2,a3,a4,a5⟩:=x;exact ⟨r,vs,n,l.row _ a1,l.moves _ a2,a3,a4,a5⟩
theorem bT.mono {v:aM}(x:bT c G h v)(l:G.Le eL):bT c eL h v:=by
 obtain ⟨a,d,ii,ia,t,a1,a2,a3,a4,a5,a6⟩:=x;exact ⟨a,d,ii,ia,t,l.self _ a1,l.obj _ _ a2,l.moves _ a3,a4,Rep.mono l _ _ a5,a6.mono l⟩
theorem St.add {a:Addr}{o:Obj}(S:St c G σ h)(l:Loose G a)(e:h.get? a=some o):St c (G.add a o) σ h:=
 have le:=Gh.dY (o:=o) l.o
 ⟨fun b o' q=>le.obj _ _ (S.base b o' q),fun b o' q=>by
  by_cases hb:b=a
  ·subst hb;rw [Gh.dm] at q;induction Option.some.inj q;exact e
  ·rw [Gh.gm hb] at q;exact S.obj b o' q,S.gk,fun b q=>(S.apart b q).turn (Gh.gm (fun z=>l.m (z▸q))) rfl,
  fun b x q=>(Gh.gm (fun z=>by subst z;exact bR (l.i.symm.trans q))).trans (S.apart2 b x q),S.row.imp id fun _ q=>q.mono le,S.self.imp id fun _ q=>q.mono le,S.tab.mono le⟩
theorem Step.add {a:Addr}{o:Obj}(x:Step fr G σ h eL aa h₁)(l:Loose eL a)(n:h.get? a=none):Step fr G σ h (eL.add a o) aa h₁:=
 ⟨x.le.trans (Gh.dY l.o),x.alive,x.keep,x.frames,fun b o' e=>⟨(Gh.gm (fun z=>by subst z;exact bR (n.symm.trans e))).trans (x.old b o' e).o,(x.old b o' e).i,(x.old b o' e).m⟩,x.eX,x.ba,x.mono⟩
noncomputable def Gh.iu (G:Gh)(d:Addr)(x:Value×Value×Value):Gh:={G with gk:=fun b=>if b=d then some x else G.gk b}
theorem Gh.qF {d:Addr}{x:Value×Value×Value}:(G.iu d x).gk d=some x:=if_pos rfl
theorem Gh.j8 {d b:Addr}{x:Value×Value×Value}(n:b≠d):(G.iu d x).gk b=G.gk b:=if_neg n
theorem Gh.j9 {d:Addr}{x:Value×Value×Value}(n:G.gk d=none):G.Le (G.iu d x):=⟨fun _ _ e=>e,zV n,fun _ e=>e,fun _ e=>e,fun _ e=>e,rfl⟩
theorem St.iu {d:Addr}{x:Value×Value×Value}(S:St c G σ h)(l:Loose G d)(e:bx c h d x):St c (G.iu d x) σ h:=
 have le:=Gh.j9 (x:=x) l.i
 ⟨S.base,S.obj,fun b y q=>by
  by_cases hb:b=d
  ·subst hb;rw [Gh.qF] at q;induction Option.some.inj q;exact e
  ·rw [Gh.j8 hb] at q;exact S.gk b y q,fun b q=>(S.apart b q).turn rfl (Gh.j8 (fun z=>l.m (z▸q))),fun b y q=>by
  by_cases hb:b=d
  ·subst hb;exact l.o
  ·rw [Gh.j8 hb] at q;exact S.apart2 b y q,S.row.imp id fun _ q=>q.mono le,S.self.imp id fun _ q=>q.mono le,S.tab.mono le⟩
theorem Step.iu {d:Addr}{y:Value×Value×Value}(x:Step fr G σ h eL aa h₁)(l:Loose eL d)(n:h.get? d=none):Step fr G σ h (eL.iu d y) aa h₁:=
 ⟨x.le.trans (Gh.j9 l.i),x.alive,x.keep,x.frames,fun b o' e=>⟨(x.old b o' e).o,(Gh.j8 (fun z=>by subst z;exact bR (n.symm.trans e))).trans (x.old b o' e).i,(x.old b o' e).m⟩,x.eX,x.ba,x.mono⟩
theorem Loose.add {a b:Addr}{o:Obj}(l:Loose G b)(n:b≠a):Loose (G.add a o) b:=⟨(Gh.gm n).trans l.o,l.i,l.m⟩
theorem Loose.iu {a b:Addr}{x:Value×Value×Value}(l:Loose G b)(n:b≠a):Loose (G.iu a x) b:=⟨l.o,(Gh.j8 n).trans l.i,l.m⟩
theorem St.loose (S:St c G σ h){a:Addr}(n:h.get? a=none):Loose G a:=by
 refine ⟨?_,?_,fun q=>?_⟩
 ·induction q:G.obj a with
  |none=>rfl
  |some o=>exact bR (n.symm.trans (S.obj a o q))
 ·induction q:G.gk a with
  |none=>rfl
  |some x=>obtain ⟨_,e,_⟩:=S.gk a x q;exact bR (n.symm.trans e)
 ·obtain ⟨_,_,o,e⟩:=S.apart a q;exact bR (n.symm.trans e)
theorem dW.step {A:Around}{G':Gh}{σ':Sg}{h':Heap}(F:dW A G h)(x:Step (ai A) G σ h G' σ' h'):dW A G' h':=by
 obtain ⟨⟨l,hl,hF⟩,hh⟩:=F;refine ⟨⟨l,hl,fun e he=>?_⟩,hh⟩;obtain ⟨h1,F,o,h2,h3,h4,h5⟩:=hF e he
 have hm:F∈ai A:=by
  unfold ai;rw [hl];exact List.mem_filterMap.mpr ⟨e,he,h2⟩
 obtain ⟨sl,h6⟩:=x.frames F o hm h3 h5;exact ⟨h1,F,_,h2,h6,h4,h5.old x h3⟩
theorem dW.alive {A:Around}(F:dW A G h){b:Addr}(m:b∈ai A):∃o,h.get? b=some o∧(∀vs,o.data≠.fields vs)∧Loose G b:=by
 obtain ⟨⟨l,hl,hF⟩,_⟩:=F;unfold ai at m;rw [hl] at m;obtain ⟨e,he,hf⟩:=List.mem_filterMap.mp m;obtain ⟨_,F,o,h2,h3,h4,h5⟩:=hF e he;induction Option.some.inj (hf.symm.trans h2);exact ⟨o,h3,h4,h5⟩
end
abbrev Part:=Addr×(Obj→Prop)
inductive mF (c:Cx) (G:Gh):T→Kd→Value→List Part→Prop
 |list (ts:List T) (a:Addr) (vs:List Value) (n:Nat) (z:vs.length≤sizeLine) (r:az c G ts vs):mF c G (.list ts) .own (.ref a) [(a,fun o=>o=aG vs n)]
 |dict (es:List (Str×T)) (a:Addr) (ds:List DictEntry) (n:Nat) (m:(a == sysModules)=false) (z:ds.length≤sizeLine) (nd:(es.map (·.1)).Nodup) (r:aW c G es ds):mF c G (.dict es) .own (.ref a) [(a,fun o=>o=aB ds n)]
 |vec (k:Str) (ah:List T) (at':T) (a d:Addr) (t:Tok) (ii ia:Value) (r:Rep c G (.list ah) ii) (r':Rep c G at' ia):mF c G (.vec k ah at') .own (.ref a) [(a,fun o=>o=instObj c.vec d),(d,uw c (.str k t,ii,ia))]
 |io (k:Str) (ah:List T) (at':T) (a d b:Addr) (t:Tok) (ia:Value) (vs:List Value) (n:Nat) (z:vs.length≤sizeLine) (r:az c G ah vs) (r':Rep c G at' ia):
   mF c G (.vec k ah at') .bg (.ref a) [(a,fun o=>o=instObj c.vec d),(d,uw c (.str k t,.ref b,ia)),(b,fun o=>o=aG vs n)]
structure uJ (G:Gh) (h:Heap) (fr:List Addr) (p:Part):Prop where
 g:rQ h p.1 p.2
 l:Loose G p.1
 f:p.1∉fr
inductive aF (c:Cx) (G:Gh) (h:Heap) (fr:List Addr) (t:T) (k:Kd) (v:Value) (as:List Addr):Prop
 |mk (ps:List Part) (r:mF c G t k v ps) (e:as=ps.map (·.1)) (nd:as.Nodup) (p:∀p∈ps,uJ G h fr p):aF c G h fr t k v as
theorem mF.mono {c:Cx}{G G':Gh}{t:T}{k:Kd}{v:Value}{ps:List Part}(x:mF c G t k v ps)(l:G.Le G'):mF c G' t k v ps:=by
 induction x with
 |list ts a vs n z r=>exact .list ts a vs n z (az.mono l _ _ r)
 |dict es a ds n m z nd r=>exact .dict es a ds n m z nd (aW.mono l _ _ r)
 |vec k ah at' a d t ii ia r r'=>exact .vec k ah at' a d t ii ia (Rep.mono l _ _ r) (Rep.mono l _ _ r')
 |io k ah at' a d b t ia vs n z r r'=>exact .io k ah at' a d b t ia vs n z (az.mono l _ _ r) (Rep.mono l _ _ r')
theorem aF.turn {c:Cx}{G G':Gh}{h h':Heap}{fr kg:List Addr}{t:T}{k:Kd}{v:Value}{as:List Addr}(x:aF c G h fr t k v as)(l:G.Le G')(q:∀a,a∈as→∀p,uJ G h fr (a,p)→uJ G' h' kg (a,p)):aF c G' h' kg t k v as:=by
 obtain ⟨ps,r,rfl,nd,y⟩:=x;exact ⟨ps,r.mono l,rfl,nd,fun p hp=>q p.1 (List.mem_map.mpr ⟨p,hp,rfl⟩) p.2 (y p hp)⟩
theorem aF.part {c:Cx}{G:Gh}{h:Heap}{fr:List Addr}{t:T}{k:Kd}{v:Value}{as:List Addr}(x:aF c G h fr t k v as){a:Addr}(m:a∈as):∃p,uJ G h fr (a,p):=by
 obtain ⟨ps,r,rfl,nd,y⟩:=x;obtain ⟨p,hp,rfl⟩:=List.mem_map.mp m;exact ⟨p.2,y p hp⟩
inductive nu (c:Cx) (G:Gh) (h:Heap) (fr:List Addr) (ts:List T):Value→List Addr→Prop
 |mk (a:Addr) (vs:List Value) (n:Nat) (e:h.get? a=some (aG vs n)) (z:vs.length≤sizeLine) (r:az c G ts vs) (l:Loose G a) (f:a∉fr):nu c G h fr ts (.ref a) [a]
inductive k9 (c:Cx) (G:Gh) (h:Heap) (fr:List Addr) (es:List (Str×T)):Value→List Addr→Prop
 |mk (a:Addr) (ds:List DictEntry) (n:Nat) (m:(a == sysModules)=false) (e:h.get? a=some (aB ds n)) (z:ds.length≤sizeLine) (nd:(es.map (·.1)).Nodup) (r:aW c G es ds) (l:Loose G a) (f:a∉fr):k9 c G h fr es (.ref a) [a]
inductive r6 (c:Cx) (G:Gh) (h:Heap) (fr:List Addr) (k:Str) (ah:List T) (at':T):Value→List Addr→Prop
 |mk (a d:Addr) (t:Tok) (ii ia:Value) (ne:a≠d) (e:h.get? a=some (instObj c.vec d)) (i:bx c h d (.str k t,ii,ia)) (r:Rep c G (.list ah) ii) (r':Rep c G at' ia) (l:Loose G a) (l':Loose G d) (f:a∉fr) (f':d∉fr):r6 c G h fr k ah at' (.ref a) [a,d]
inductive mG (c:Cx) (G:Gh) (h:Heap) (fr:List Addr) (k:Str) (ah:List T) (at':T):Value→List Addr→Prop
 |mk (a d b:Addr) (t:Tok) (ia:Value) (vs:List Value) (n:Nat) (ne:a≠d) (ne':a≠b) (ny:d≠b) (e:h.get? a=some (instObj c.vec d)) (i:bx c h d (.str k t,.ref b,ia)) (e':h.get? b=some (aG vs n)) (z:vs.length≤sizeLine)
   (r:az c G ah vs) (r':Rep c G at' ia) (l:Loose G a) (l':Loose G d) (C3:Loose G b) (f:a∉fr) (f':d∉fr) (I8:b∉fr):mG c G h fr k ah at' (.ref a) [a,d,b]
section
variable {c:Cx}{G:Gh}{h:Heap}{fr:List Addr}{ts ah:List T}{es:List (Str×T)}{kd:Str}{at':T}{v:Value}{as:List Addr}
theorem rQ.eq {h:Heap}{a:Addr}{o:Obj}(x:rQ h a fun o'=>o'=o):h.get? a=some o:=by
 obtain ⟨o',e,rfl⟩:=x;exact e
theorem aF.l (x:aF c G h fr (.list ts) .own v as):nu c G h fr ts v as:=by
 obtain ⟨ps,r,rfl,nd,y⟩:=x
 cases r with
 |list _ a vs n z r=>have p:=y _ (.head _);exact .mk a vs n p.g.eq z r p.l p.f
theorem aF.d (x:aF c G h fr (.dict es) .own v as):k9 c G h fr es v as:=by
 obtain ⟨ps,r,rfl,nd,y⟩:=x
 cases r with
 |dict _ a ds n m z P0 r=>have p:=y _ (.head _);exact .mk a ds n m p.g.eq z P0 r p.l p.f
theorem aF.i (x:aF c G h fr (.vec kd ah at') .own v as):r6 c G h fr kd ah at' v as:=by
 obtain ⟨ps,r,rfl,nd,y⟩:=x
 cases r with
 |vec _ _ _ a d t ii ia r r'=>
  have p:=y _ (.head _);have q:=y _ (.tail _ (.head _));exact .mk a d t ii ia (fun e=>(List.nodup_cons.mp nd).1 (e▸.head _)) p.g.eq q.g r r' p.l q.l p.f q.f
theorem aF.o (x:aF c G h fr (.vec kd ah at') .bg v as):mG c G h fr kd ah at' v as:=by
 obtain ⟨ps,r,rfl,nd,y⟩:=x
 cases r with
 |io _ _ _ a d b t ia vs n z r r'=>
  have p:=y _ (.head _);have q:=y _ (.tail _ (.head _));have u:=y _ (.tail _ (.tail _ (.head _)));refine (List.nodup_cons.mp nd).elim fun n1 n2=>?_
  exact .mk a d b t ia vs n (fun e=>n1 (e▸.head _)) (fun e=>n1 (e▸.tail _ (.head _))) (fun e=>(List.nodup_cons.mp n2).1 (e▸.head _)) p.g.eq q.g u.g.eq z r r' p.l q.l u.l p.f q.f u.f
theorem aY {α:Type}{P:α→Prop}{a:α}(h:P a):∀x∈[a],P x:=List.forall_mem_cons.mpr ⟨h,fun _ q=>nomatch q⟩
theorem nA {a:Addr}:[a].Nodup:=List.nodup_cons.mpr ⟨List.not_mem_nil,List.nodup_nil⟩
theorem zW {a b:Addr}(n:a≠b):[a,b].Nodup:=List.nodup_cons.mpr ⟨fun q=>n (List.mem_singleton.mp q),nA⟩
theorem nu.own (x:nu c G h fr ts v as):aF c G h fr (.list ts) .own v as:=by
 induction x with|mk a vs n e z r l f=>?_
 exact ⟨_,.list ts a vs n z r,rfl,nA,aY ⟨⟨_,e,rfl⟩,l,f⟩⟩
theorem k9.own (x:k9 c G h fr es v as):aF c G h fr (.dict es) .own v as:=by
 induction x with|mk a ds n m e z nd r l f=>?_
 exact ⟨_,.dict es a ds n m z nd r,rfl,nA,aY ⟨⟨_,e,rfl⟩,l,f⟩⟩
theorem r6.own (x:r6 c G h fr kd ah at' v as):aF c G h fr (.vec kd ah at') .own v as:=by
 induction x with|mk a d t ii ia ne e i r r' l l' f f'=>?_
 exact ⟨_,.vec kd ah at' a d t ii ia r r',rfl,zW ne,List.forall_mem_cons.mpr ⟨⟨⟨_,e,rfl⟩,l,f⟩,aY ⟨i,l',f'⟩⟩⟩
theorem mG.own (x:mG c G h fr kd ah at' v as):aF c G h fr (.vec kd ah at') .bg v as:=by
 induction x with|mk a d b t ia vs n ne ne' ny e i e' z r r' l l' C3 f f' I8=>?_
 exact ⟨_,.io kd ah at' a d b t ia vs n z r r',rfl,List.nodup_cons.mpr ⟨fun q=>(List.mem_cons.mp q).elim ne fun q=>ne' (List.mem_singleton.mp q),zW ny⟩,
  List.forall_mem_cons.mpr ⟨⟨⟨_,e,rfl⟩,l,f⟩,List.forall_mem_cons.mpr ⟨⟨i,l',f'⟩,aY ⟨⟨_,e',rfl⟩,C3,I8⟩⟩⟩⟩
end
inductive wJ (c:Cx) (G:Gh) (σ:Sg) (h:Heap) (t:T) (v:Value):Prop
 |mk (es:List (Str×T)) (sv:aM) (a d:Addr) (ik ii:Value) (e:t=.dict es) (lg:σ.self=some sv) (ea:sv.attrs=some es) (eg:G.self=some (a,d)) (i:bx c h d (ik,ii,v)) (q:uH c G h d es v):wJ c G σ h t v
inductive cT (c:Cx) (fr:List Addr) (pre:Heap) (G:Gh) (h:Heap) (t:T) (k:Kd) (v:Value):Prop
 |mk (as:List Addr) (y:aF c G h fr t k v as) (n:∀a∈as,pre.get? a=none):cT c fr pre G h t k v
def P1 (c:Cx)(fr:List Addr)(pre:Heap)(G:Gh)(σ:Sg)(h:Heap)(t:T)(v:Value):Kd→Prop
 |.val=>Rep c G t v
 |.h=>wJ c G σ h t v
 |.own=>cT c fr pre G h t .own v
 |.bg=>cT c fr pre G h t .bg v
def RV (c:Cx)(fr:List Addr)(pre:Heap)(G:Gh)(σ:Sg)(h:Heap)(r:T×Kd)(v:Value):Prop:=P1 c fr pre G σ h r.1 v r.2
inductive b0 (s:Shared):Shared→Prop
 |mk (h:Heap) (tk:Nat):b0 s {s with heap:=h,toks:=tk}
theorem b0.refl (s:Shared):b0 s s:=.mk s.heap s.toks
theorem b0.trans {a b d:Shared}(x:b0 a b)(y:b0 b d):b0 a d:=by
 induction x with|mk h t=>?_
 induction y with|mk h' t'=>?_
 exact .mk h' t'
theorem b0.mk' (s:Shared)(h:Heap)(t:Nat):b0 s {s with heap:=h,toks:=t}:=.mk h t
inductive x7 (fr:List Addr) (pre:Heap) (G:Gh) (h:Heap) (e:Addr) (vs:Array Value):Prop
 |none (q:vs[1]?=some .none):x7 fr pre G h e vs
 |at_ (T:Addr) (oT:Obj) (ts:Array Value) (x:Value) (q:vs[1]?=some (.ref T)) (ne:T≠e) (g:h.get? T=some oT) (d:oT.data=.fields ts) (q':ts[3]?=some x) (l:Loose G T) (f:T∉fr) (n:pre.get? T=none):x7 fr pre G h e vs
inductive mH (c:Cx) (fr:List Addr) (pre:Heap) (G:Gh) (h:Heap) (e:Addr) (m:Str):Prop
 |mk (oe:Obj) (de:Addr) (vs:Array Value) (t t':Tok) (n:Nat) (g:h.get? e=some oe) (cl:oe.cls=.ref c.exc) (di:oe.dict=some de) (da:oe.data=.fields vs) (gd:G.obj de=some (aB [⟨c.H "message",.str "message" t,.str m t'⟩] n)) (l:Loose G e) (f:e∉fr)
   (pn:pre.get? e=none) (q:x7 fr pre G h e vs):mH c fr pre G h e m
structure Inv (fr:List Addr) where
 P:Gh→Heap→Prop
 stays:∀{G σ h G' σ' h'},Step fr G σ h G' σ' h'→P G h→P G' h'
noncomputable def Inv.top (fr:List Addr):Inv fr:=⟨fun _ _=>True,fun _ _=>trivial⟩
section
variable (c:Cx)(A:Around)(I:Inv (ai A))(Γ:Gh)(σ:Sg)(s:Shared)
structure Pre:Prop where
 st:St c Γ σ s.heap
 fr:dW A Γ s.heap
 inv:I.P Γ s.heap
inductive gF {α β:Type} (R:Heap→Gh→Sg→Heap→α→β→Prop) (res:Res α) (b:β) (s':Shared):Prop
 |mk (a:α) (σ':Sg) (e:res=.ok a σ') (a0:Gh) (sm:b0 s s') (st:St c a0 σ' s'.heap) (sp:Step (ai A) Γ σ s.heap a0 σ' s'.heap) (r:R s.heap a0 σ' s'.heap a b):gF R res b s'
inductive mK {α:Type} (res:Res α):Value→Shared→Prop
 |mk (m:Str) (σ':Sg) (e:res=.ct m σ') (a0:Gh) (ea:Addr) (s':Shared) (sm:b0 s s') (st:St c a0 σ' s'.heap) (sp:Step (ai A) Γ σ s.heap a0 σ' s'.heap) (x:mH c (ai A) s.heap a0 s'.heap ea m):mK res (.ref ea) s'
end
def Wp {α β:Type}(prog:Program)(c:Cx)(A:Around)(R:Heap→Gh→Sg→Heap→α→β→Prop)(Γ:Gh)(σ:Sg)(s:Shared)(res:Res α)(X:Sem β)(s₁:Shared):Prop:=
 wpAny (model prog c.w) A X (gF c A Γ σ s R res) (mK c A Γ σ s res) s₁
def aC {α β:Type}(prog:Program)(c:Cx)(A:Around)(I:Inv (ai A))(R:Heap→Gh→Sg→Heap→α→β→Prop)(m:M α)(X:Sem β):Prop:=
 ∀Γ σ s,Pre c A I Γ σ s→m σ≠.stuck→Wp prog c A R Γ σ s (m σ) X s
def Back {α β:Type}(R:Heap→Gh→Sg→Heap→α→β→Prop):Prop:=∀h₀ h₁ G σ h a b,(∀x o,h₀.get? x=some o→∃o',h₁.get? x=some o')→R h₁ G σ h a b→R h₀ G σ h a b
theorem bQ {h₀ h₁:Heap}(k:∀x o,h₀.get? x=some o→∃o',h₁.get? x=some o'){a:Addr}(e:h₁.get? a=none):h₀.get? a=none:=dn (k a) e
theorem M.nB {α β:Type}{m:M α}{f:α→M β}{σ aa:Sg}{a:α}(e:m σ=.ok a aa):(m>>=f) σ=f a aa:=by
 show M.bind m f σ=_;unfold M.bind;rw [e]
theorem M.pC {α β:Type}{m:M α}{f:α→M β}{σ aa:Sg}{x:Str}(e:m σ=.ct x aa):(m>>=f) σ=.ct x aa:=by
 show M.bind m f σ=_;unfold M.bind;rw [e]
theorem M.r7 {α β:Type}{m:M α}{f:α→M β}{σ:Sg}(ne:(m>>=f) σ≠.stuck):m σ≠.stuck:=fun q=>ne (by show M.bind m f σ=_;unfold M.bind;rw [q])
section
variable {prog:Program}{c:Cx}{A:Around}{I:Inv (ai A)}{Γ af:Gh}{σ aa:Sg}{s s₁ aJ:Shared}{α β γ δ:Type}
theorem Pre.next (P:Pre c A I Γ σ s)(S:St c af aa s₁.heap)(x:Step (ai A) Γ σ s.heap af aa s₁.heap):Pre c A I af aa s₁:=⟨S,P.fr.step x,I.stays x P.inv⟩
theorem x7.back {fr:List Addr}{h₀ h₁ h:Heap}{G:Gh}{e:Addr}{vs:Array Value}(k:∀x o,h₀.get? x=some o→∃o',h₁.get? x=some o')(x:x7 fr h₁ G h e vs):x7 fr h₀ G h e vs:=by
 induction x with
 |none q=>exact .none q
 |at_ T oT ts x q ne g d q' l f n=>exact .at_ T oT ts x q ne g d q' l f (bQ k n)
theorem mH.back {fr:List Addr}{h₀ h₁ h:Heap}{G:Gh}{e:Addr}{m:Str}(k:∀x o,h₀.get? x=some o→∃o',h₁.get? x=some o')(x:mH c fr h₁ G h e m):mH c fr h₀ G h e m:=by
 obtain ⟨oe,de,vs,t,t',n,a1,a2,a3,a4,a5,a6,a7,a8,a9⟩:=x;exact ⟨oe,de,vs,t,t',n,a1,a2,a3,a4,a5,a6,a7,bQ k a8,a9.back k⟩
theorem gF.back {R:Heap→Gh→Sg→Heap→α→β→Prop}(hR:Back R){res:Res α}{b:β}{s':Shared}(P:Pre c A I Γ σ s)(e:b0 s s₁)(x:Step (ai A) Γ σ s.heap af aa s₁.heap)
  (q:gF c A af aa s₁ R res b s'):gF c A Γ σ s R res b s':=by
 obtain ⟨a,σ',hr,a0,y1,y2,y3,y4⟩:=q;exact ⟨a,σ',hr,a0,e.trans y1,y2,Step.trans P.st x y3,hR _ _ _ _ _ _ _ x.alive y4⟩
theorem mK.back {res:Res α}{v:Value}{s':Shared}(P:Pre c A I Γ σ s)(e:b0 s s₁)(x:Step (ai A) Γ σ s.heap af aa s₁.heap)
  (q:mK c A af aa s₁ res v s'):mK c A Γ σ s res v s':=by
 induction q with|mk m σ' hr a0 ea s' y1 y2 y3 y4=>?_
 exact ⟨m,σ',hr,a0,ea,s',e.trans y1,y2,Step.trans P.st x y3,y4.back x.alive⟩
theorem mK.cast {res:Res α}{kh:Res β}{v:Value}{s':Shared}(h:∀m σ',res=.ct m σ'→kh=.ct m σ')(q:mK c A Γ σ s res v s'):mK c A Γ σ s kh v s':=by
 induction q with|mk m σ' hr a0 ea s' y=>?_
 exact ⟨m,σ',h _ _ hr,a0,ea,s',by assumption,by assumption,by assumption,by assumption⟩
theorem seq {R:Heap→Gh→Sg→Heap→α→γ→Prop}{m:M α}{f:α→M β}{X:Sem γ}{K:γ→Shared→Prop}
  (P:Pre c A I Γ σ s) (ne:(m>>=f) σ≠.stuck) (hX:aC prog c A I R m X)
  (k:∀a aa af b s₁,m σ=.ok a aa→b0 s s₁→Step (ai A) Γ σ s.heap af aa s₁.heap→Pre c A I af aa s₁→R s.heap af aa s₁.heap a b→f a aa≠.stuck→((m>>=f) σ=f a aa)→K b s₁):
  wpAny (model prog c.w) A X K (mK c A Γ σ s ((m>>=f) σ)) s:=by
 refine wpAny_mono (hX Γ σ s P (M.r7 ne)) (fun b s₁ q=>?_) fun e s₁ q=>q.cast fun _ _=>M.pC
 obtain ⟨a,aa,e,af,y1,y2,y3,y4⟩:=q;exact k a aa af b s₁ e y1 y3 (P.next y2 y3) y4 (fun q=>ne ((M.nB e).trans q)) (M.nB e)
theorem cF {R':Heap→Gh→Sg→Heap→β→δ→Prop}(hR:Back R'){res:Res β}{X:Sem δ}(P:Pre c A I Γ σ s)(e:b0 s s₁)(x:Step (ai A) Γ σ s.heap af aa s₁.heap)
  (h:Wp prog c A R' af aa s₁ res X aJ):Wp prog c A R' Γ σ s res X aJ:=
 wpAny_mono h (fun _ _ q=>q.back hR P e x) fun _ _ q=>q.back P e x
theorem G9 {R:Heap→Gh→Sg→Heap→α→γ→Prop}{R':Heap→Gh→Sg→Heap→β→δ→Prop}(hR:Back R'){m:M α}{f:α→M β}{X:Sem γ}{K:γ→Sem δ}
  (P:Pre c A I Γ σ s) (ne:(m>>=f) σ≠.stuck) (hX:aC prog c A I R m X)
  (k:∀a aa af b s₁ pre,Pre c A I af aa s₁→R pre af aa s₁.heap a b→f a aa≠.stuck→Wp prog c A R' af aa s₁ (f a aa) (K b) s₁):
  wpAny (model prog c.w) A X (fun b s₁=>Wp prog c A R' Γ σ s ((m>>=f) σ) (K b) s₁) (mK c A Γ σ s ((m>>=f) σ)) s:=
 seq P ne hX fun a aa af b s₁ _ y1 y2 ao r ne1 e1=>cF hR P y1 y2 (e1▸k a aa af b s₁ _ ao r ne1)
theorem aC.mono {R R':Heap→Gh→Sg→Heap→α→β→Prop}{m:M α}{X:Sem β}(h:aC prog c A I R m X)
  (k:∀Γ σ s a aa af b s₁,Pre c A I Γ σ s→Step (ai A) Γ σ s.heap af aa s₁.heap→Pre c A I af aa s₁→R s.heap af aa s₁.heap a b→
   ∃aj,St c aj aa s₁.heap∧Step (ai A) Γ σ s.heap aj aa s₁.heap∧R' s.heap aj aa s₁.heap a b):aC prog c A I R' m X:=by
 intro Γ σ s P ne;refine wpAny_mono (h Γ σ s P ne) (fun b s₁ q=>?_) fun _ _ q=>q
 obtain ⟨a,aa,e,af,y1,y2,y3,y4⟩:=q;obtain ⟨aj,z1,z2,z3⟩:=k Γ σ s a aa af b s₁ P y3 (P.next y2 y3) y4;exact ⟨a,aa,e,aj,y1,z1,z2,z3⟩
end
inductive o8 (c:Cx) (G:Gh) (σ:Sg) (h:Heap) (t:T) (v:Value) (as:List Addr):Prop
 |mk (G':Gh) (le:G.Le G') (st:St c G' σ h) (r:Rep c G' t v) (lo:∀b,b∉as→Loose G b→Loose G' b) (sp:∀(zX:Gh) (σ₀:Sg) (h₀:Heap) (fr:List Addr),(∀a∈as,h₀.get? a=none)→Step fr zX σ₀ h₀ G σ h→Step fr zX σ₀ h₀ G' σ h):o8 c G σ h t v as
theorem o8.self {c:Cx}{G:Gh}{σ:Sg}{h:Heap}{t:T}{v:Value}{as:List Addr}(S:St c G σ h)(r:Rep c G t v):o8 c G σ h t v as:=⟨G,.refl G,S,r,fun _ _ l=>l,fun _ _ _ _ _ y=>y⟩
theorem o8.add {c:Cx}{G:Gh}{σ:Sg}{h:Heap}{t:T}{v:Value}{as:List Addr}{a:Addr}{o:Obj}(l:Loose G a)(x:o8 c (G.add a o) σ h t v as):o8 c G σ h t v (a::as):=by
 obtain ⟨G',le,st,r,lo,sp⟩:=x;exact ⟨G',(Gh.dY l.o).trans le,st,r,fun b hb lb=>lo b (fun q=>hb (.tail _ q)) (lb.add fun q=>hb (q▸.head _)),fun _ _ _ _ f y=>sp _ _ _ _ (fun b hb=>f b (.tail _ hb)) (y.add l (f a (.head _)))⟩
theorem o8.iu {c:Cx}{G:Gh}{σ:Sg}{h:Heap}{t:T}{v:Value}{as:List Addr}{d:Addr}{x:Value×Value×Value}(l:Loose G d)(y:o8 c (G.iu d x) σ h t v as):o8 c G σ h t v (d::as):=by
 obtain ⟨G',le,st,r,lo,sp⟩:=y;exact ⟨G',(Gh.j9 l.i).trans le,st,r,fun b hb lb=>lo b (fun q=>hb (.tail _ q)) (lb.iu fun q=>hb (q▸.head _)),fun _ _ _ _ f y=>sp _ _ _ _ (fun b hb=>f b (.tail _ hb)) (y.iu l (f d (.head _)))⟩
theorem nu.freeze {c:Cx}{G:Gh}{σ:Sg}{h:Heap}{fr:List Addr}{ts:List T}{v:Value}{as:List Addr}(S:St c G σ h)(x:nu c G h fr ts v as):o8 c G σ h (.list ts) v as:=by
 induction x with|mk a vs n e z r l _=>?_
 exact o8.add l (.self (S.add l e) (eK.mk a _ _ Gh.dm z (az.mono (Gh.dY l.o) _ _ r)))
theorem k9.freeze {c:Cx}{G:Gh}{σ:Sg}{h:Heap}{fr:List Addr}{es:List (Str×T)}{v:Value}{as:List Addr}(S:St c G σ h)(x:k9 c G h fr es v as):o8 c G σ h (.dict es) v as:=by
 induction x with|mk a vs n m e z nd r l _=>?_
 exact o8.add l (.self (S.add l e) (gE.mk a _ _ m Gh.dm z nd (aW.mono (Gh.dY l.o) _ _ r)))
theorem r6.freeze {c:Cx}{G:Gh}{σ:Sg}{h:Heap}{fr:List Addr}{k:Str}{ah:List T}{at':T}{v:Value}{as:List Addr}(S:St c G σ h)(x:r6 c G h fr k ah at' v as):o8 c G σ h (.vec k ah at') v as:=by
 induction x with|mk a d t ii ia ne e i r r' l l' _=>?_
 have l2:=l'.add (o:=instObj c.vec d) ne.symm;have le:=(Gh.dY (o:=instObj c.vec d) l.o).trans (Gh.j9 (x:=(.str k t,ii,ia)) l2.i);obtain ⟨b,vs,n,q1,q2,q3⟩:=Rep.mono le _ _ r;exact o8.add l (o8.iu l2 (.self ((S.add l e).iu l2 i) (qC.mk a d b t vs n ia Gh.dm Gh.qF q1 q2 q3 (Rep.mono le _ _ r'))))
theorem mG.freeze {c:Cx}{G:Gh}{σ:Sg}{h:Heap}{fr:List Addr}{k:Str}{ah:List T}{at':T}{v:Value}{as:List Addr}(S:St c G σ h)(x:mG c G h fr k ah at' v as):o8 c G σ h (.vec k ah at') v as:=by
 induction x with|mk a d b t ia vs n ne ne' ny e i e' z r r' l l' C3 _=>?_
 have l2:=l'.add (o:=instObj c.vec d) ne.symm;have l3:=(C3.add (o:=instObj c.vec d) ne'.symm).iu (x:=(.str k t,.ref b,ia)) ny.symm;have le:=(Gh.dY (o:=instObj c.vec d) l.o).trans ((Gh.j9 (x:=(.str k t,.ref b,ia)) l2.i).trans (Gh.dY (o:=aG vs n) l3.o));exact o8.add l (o8.iu l2 (o8.add l3 (.self (((S.add l e).iu l2 i).add l3 e') (qC.mk a d b t vs n ia ((Gh.gm ne').trans Gh.dm) Gh.qF Gh.dm z (az.mono le _ _ r) (Rep.mono le _ _ r')))))
theorem aF.freeze {c:Cx}{G:Gh}{σ:Sg}{h:Heap}{fr:List Addr}{t:T}{k:Kd}{v:Value}{as:List Addr}(S:St c G σ h)(x:aF c G h fr t k v as):o8 c G σ h t v as:=by
 have x':=x;obtain ⟨ps,r,e,-,-⟩:=x';clear e
 induction r with
 |list=>exact x.l.freeze S
 |dict=>exact x.d.freeze S
 |vec=>exact x.i.freeze S
 |io=>exact x.o.freeze S
inductive pD (c:Cx) (G:Gh) (r:T×Kd) (v:Value):Prop
 |h (e:r.2=.h) (es:List (Str×T)) (x:Addr) (e1:r.1=.dict es) (e2:v=.ref x):pD c G r v
 |rep (n:r.2≠.h) (x:Rep c G r.1 v):pD c G r v
def RW (c:Cx)(_:Heap)(G:Gh)(_:Sg)(_:Heap)(r:T×Kd)(v:Value):Prop:=pD c G r v
theorem cT.back {c:Cx}{fr:List Addr}{h₀ h₁ h:Heap}{G:Gh}{t:T}{k:Kd}{v:Value}(q:∀x o,h₀.get? x=some o→∃o',h₁.get? x=some o')(x:cT c fr h₁ G h t k v):cT c fr h₀ G h t k v:=by
 obtain ⟨as,y,n⟩:=x;exact ⟨as,y,fun a ha=>bQ q (n a ha)⟩
theorem bu {c:Cx}{fr:List Addr}:Back (RV c fr):=by
 intro h₀ h₁ G σ h r v q x;obtain ⟨t,k⟩:=r
 induction k with
 |val=>exact x
 |h=>exact x
 |own=>exact cT.back q x
 |bg=>exact cT.back q x
section
variable {prog:Program}{c:Cx}{A:Around}{I:Inv (ai A)}{β:Type}
theorem cT.LH {zX G:Gh}{σ₀ σ:Sg}{h₀ h:Heap}{fr:List Addr}{t:T}{k:Kd}{v:Value}(q:cT c fr h₀ G h t k v)(S:St c G σ h)(x:Step fr zX σ₀ h₀ G σ h):∃G',St c G' σ h∧Step fr zX σ₀ h₀ G' σ h∧Rep c G' t v:=by
 obtain ⟨as,y,n⟩:=q;obtain ⟨G',_,S',r',_,st⟩:=y.freeze S;exact ⟨G',S',st _ _ _ _ n x,r'⟩
theorem aC.weak {m:M (T×Kd)}{X:Sem Value}(h:aC prog c A I (RV c (ai A)) m X):aC prog c A I (RW c) m X:=by
 refine h.mono fun Γ σ s r aa af v s₁ P x ao q=>?_
 obtain ⟨t,k⟩:=r
 induction k with
 |val=>exact ⟨af,ao.st,x,.rep (by simp) q⟩
 |h=>
  obtain ⟨es,_,_,_,_,_,e,_,_,_,_,y⟩:=q;induction y with|mk D=>?_
  exact ⟨af,ao.st,x,.h rfl es D e rfl⟩
 |own=>obtain ⟨G',S',x',r'⟩:=cT.LH q ao.st x;exact ⟨G',S',x',.rep (by simp) r'⟩
 |bg=>obtain ⟨G',S',x',r'⟩:=cT.LH q ao.st x;exact ⟨G',S',x',.rep (by simp) r'⟩
end
section
variable {c:Cx}{fr:List Addr}{G G':Gh}{σ σ':Sg}{h h':Heap}
theorem Step.loose (x:Step fr G σ h G' σ' h'){a:Addr}{o:Obj}(l:Loose G a)(e:h.get? a=some o):∃sl,h'.get? a=some {o with slots:=sl}:=by
 by_cases m:a∈fr
 ·exact x.frames a o m e l
 ·exact ⟨o.slots,x.keep a o e l.m l.i m⟩
theorem Step.ns (x:Step fr G σ h G' σ' h'){a:Addr}{m:Str→Option Value}(l:Loose G a)(n:h.Ns a m):h'.Ns a m∧Loose G' a:=by
 obtain ⟨o,es,ep,h1,h2,h3⟩:=n;obtain ⟨sl,e⟩:=x.loose l h1;exact ⟨⟨_,es,ep,e,h2,h3⟩,l.old x h1⟩
theorem Step.cell (x:Step fr G σ h G' σ' h'){a:Addr}{v:Option Value}(l:Loose G a)(n:h.IsCell a v):h'.IsCell a v∧Loose G' a:=by
 obtain ⟨o,h1,h2⟩:=n;refine (x.loose l h1).elim fun sl e=>?_
 exact ⟨⟨_,e,h2⟩,l.old x h1⟩
theorem uJ.step (x:Step fr G σ h G' σ' h'){p:Part}(y:uJ G h fr p):uJ G' h' fr p:=by
 obtain ⟨⟨o,e,q⟩,l,f⟩:=y;exact ⟨⟨o,x.keep _ _ e l.m l.i f,q⟩,l.old x e,f⟩
theorem aF.step (x:Step fr G σ h G' σ' h'){t:T}{k:Kd}{v:Value}{as:List Addr}(y:aF c G h fr t k v as):aF c G' h' fr t k v as:=y.turn x.le fun _ _ _ q=>q.step x
structure Lz (G:Gh) (h:Heap) (fr:List Addr) (a:Addr):Prop where
 l:Loose G a
 f:a∉fr
 e:∃o,h.get? a=some o
theorem aF.iC {t:T}{k:Kd}{v:Value}{as:List Addr}(y:aF c G h fr t k v as)(a:Addr)(m:a∈as):Lz G h fr a:=by
 obtain ⟨p,⟨o,e,_⟩,l,f⟩:=y.part m;exact ⟨l,f,o,e⟩
end
inductive jH (G:Gh) (h:Heap) (env:PySem.Env) (m:Str→Option Value) (x:Str) (v:Value):Prop
 |loc (k:env.kindOf x=some .local) (e:m x=some v):jH G h env m x v
 |cell (k:NameKind) (ca:Addr) (hk:k=.cell∨k=.free) (e:env.kindOf x=some k) (e':env.cells.lookup x=some ca) (q:h.IsCell ca (some v)) (l:Loose G ca):jH G h env m x v
inductive kj (c:Cx) (G:Gh) (h:Heap) (fr:List Addr) (env:PySem.Env) (m:Str→Option Value) (p:Str×T×Kd) (as:List Addr):Prop
 |mk (v:Value) (b:jH G h env m p.1 v) (y:aF c G h fr p.2.1 p.2.2 v as):kj c G h fr env m p as
abbrev zY (c:Cx)(G:Gh)(h:Heap)(fr:List Addr)(env:PySem.Env)(m:Str→Option Value)(own:List (Str×T×Kd))(f:Str→List Addr):Prop:=∀p∈own,kj c G h fr env m p (f p.1)
inductive eY (c:Cx) (old:Heap) (G:Gh) (h:Heap) (fr:List Addr) (env:PySem.Env) (m:Str→Option Value) (own:List (Str×T×Kd)):Prop
 |mk (f:Str→List Addr) (o:zY c G h fr env m own f) (ap:∀p∈own,∀q∈own,p.1≠q.1→∀a∈f p.1,a∉f q.1) (nd:(own.map (·.1)).Nodup) (new:∀p∈own,∀a∈f p.1,old.get? a=none):eY c old G h fr env m own
inductive r8 (c:Cx) (G:Gh) (h:Heap) (env:PySem.Env) (m:Str→Option Value) (x:Str) (t:T):Prop
 |mk (v:Value) (b:jH G h env m x v) (r:Rep c G t v):r8 c G h env m x t
inductive zZ (c:Cx) (old:Heap) (G:Gh) (h:Heap) (fr:List Addr) (env:PySem.Env) (L:Ev):Prop
 |mk (m:Str→Option Value) (ns:h.Ns env.locals m) (l:Loose G env.locals) (loc:∀x t,L.loc x=some t→r8 c G h env m x t) (own:eY c old G h fr env m L.own):zZ c old G h fr env L
structure gS (c:Cx) (old:Heap) (G:Gh) (h:Heap) (fr:List Addr) (env:PySem.Env) (L:Ev):Prop where
 kind:env.scope.kind=.function
 glob:env.globals=mainGlobals
 blt:env.builtins=builtinsNs
 bound:zZ c old G h fr env L
section
variable {c:Cx}{fr:List Addr}{G G':Gh}{σ σ':Sg}{h h':Heap}{env:PySem.Env}{L:Ev}{m:Str→Option Value}{x:Str}{v:Value}
theorem jH.step (y:Step fr G σ h G' σ' h')(b:jH G h env m x v):jH G' h' env m x v:=by
 induction b with
 |loc k e=>exact .loc k e
 |cell k ca h1 h2 h3 h4 h5=>exact .cell k ca h1 h2 h3 (y.cell h5 h4).1 (y.cell h5 h4).2
theorem kj.step (y:Step fr G σ h G' σ' h'){p:Str×T×Kd}{as:List Addr}(b:kj c G h fr env m p as):kj c G' h' fr env m p as:=by
 obtain ⟨v,q1,q2⟩:=b;exact ⟨v,q1.step y,q2.step y⟩
theorem eY.turn {own:List (Str×T×Kd)}{old:Heap}{m':Str→Option Value}{kg:List Addr}{eM:PySem.Env}(b:eY c old G h fr env m own)(k:∀p∈own,∀as,kj c G h fr env m p as→kj c G' h' kg eM m' p as):eY c old G' h' kg eM m' own:=by
 obtain ⟨f,h1,h2,h3,h4⟩:=b;exact ⟨f,fun p hp=>k p hp _ (h1 p hp),h2,h3,h4⟩
theorem r8.turn {t:T}{m':Str→Option Value}{eM:PySem.Env}(b:r8 c G h env m x t)(l:G.Le G')(k:∀v,jH G h env m x v→jH G' h' eM m' x v):r8 c G' h' eM m' x t:=by
 obtain ⟨v,z1,z2⟩:=b;exact ⟨v,k v z1,Rep.mono l _ _ z2⟩
theorem gS.step {old:Heap}(y:Step fr G σ h G' σ' h')(E:gS c old G h fr env L):gS c old G' h' fr env L:=by
 obtain ⟨h1,h2,h3,m,h4,h5,h6,h7⟩:=E;exact ⟨h1,h2,h3,m,(y.ns h5 h4).1,(y.ns h5 h4).2,fun x t e=>(h6 x t e).turn y.le fun _ b=>b.step y,h7.turn fun _ _ _ b=>b.step y⟩
end
noncomputable def cg (c:Cx)(old:Heap)(fr:List Addr)(env:PySem.Env)(L:Ev):Inv fr:=⟨fun G h=>gS c old G h fr env L,fun y E=>E.step y⟩
structure Dk (K:Frag) (C:Addr) (ns:List Str):Prop where
 ga:findIn K (.ref C) "__getattribute__"=some (some (.builtin "object.__getattribute__"))
 cd:∃cd,clsIn K C=some cd∧cd.hasDict=true
 attr:∀n∈ns,findIn K (.ref C) n=some none
noncomputable def bF:List (Str×Value):=[("len",.builtin "len"),("str",.type "str"),("list",.type "list"),("dict",.type "dict"),("abs",.builtin "abs"),("range",.type "range"),("max",.builtin "max"),("isinstance",.builtin "isinstance")]
structure Facts (c:Cx):Prop where
 rR:c.K.In c.base
 JH:Dk c.K c.vec ["kind","items","attrs","shared","loose"]
 MA:Dk c.K c.nul ["kind","attrs"]
 lh:isIn c.K (.ref c.vec) c.vec=true
 MB:kin_not c.K c.nul c.vec=true
 Ha:∀C∈[c.vec,c.nul],kin_notT c.K C "str"=true∧plainGet c.K C "__class__"=true∧hasDictIn c.K C=true∧findIn c.K (.ref C) "__class__"=some (some (.builtin "object.__class__"))∧mroIn c.K C (.type "object")=some true
 Hb:specialIn c.K (.builtin "object.__class__") "__get__"=some (some (.builtin "getset_descriptor.__get__"))
 xX:takesIn c.K (.builtin "object.__class__")=some true
 JI:c.mg "Vector"=some (.ref c.vec)
 blt:∀p∈bF,c.mg p.1=none∧c.mb p.1=some p.2
 g:c.base.Ns mainGlobals c.mg
 b:c.base.Ns builtinsNs c.mb
 nolimit:c.base.NoLimit
 most:∃t,c.mg "MOST_LENGTH"=some (.int 1000000 t)
section
variable {c:Cx}{G:Gh}{σ:Sg}{h:Heap}
theorem St.kept (S:St c G σ h):∀b o,c.base.get? b=some o→h.get? b=some o:=fun b o e=>S.obj b o (S.base b o e)
end
section
variable {M:Model}{A:Around}{E:Value→Shared→Prop}{s:Shared}{env:PySem.Env}{Q:Value→Shared→Prop}
theorem cJ {G:Gh}{m:Str→Option Value}{x:Str}{v:Value}{pos:Pos}(hk:env.scope.kind=.function)(hn:s.heap.Ns env.locals m)(b:jH G s.heap env m x v)
  (hd:(x == ("__debug__":Str))=false) (hc:(x == ("__classdict__":Str))=false) (h:Q v s):wpAny M A (eval (.Name x pos) env) Q E s:=by
 refine wpAny_Name ?_ hd
 induction b with
 |loc h1 h2=>exact wpAny_loadName_local hk h1 hn h2 h
 |cell k ca h1 h2 h3 h4 h5=>
  rcases h1 with rfl|rfl
  ·exact wpAny_loadName_cell hk h2 h3 h4 h
  ·exact wpAny_loadName_free hk h2 h3 h4 h hc
theorem lj {mg:Str→Option Value}{x:Str}{v:Value}{pos:Pos}(hk:env.scope.kind=.function)(hx:env.kindOf x=some .globalImplicit)(hg:s.heap.Ns env.globals mg)(hv:mg x=some v)
  (hd:(x == ("__debug__":Str))=false) (h:Q v s):wpAny M A (eval (.Name x pos) env) Q E s:=
 Calls.Name_function_global hk hx (Calls.loadGlobal_global hg hv h) hd
theorem z0 {mg mb:Str→Option Value}{x:Str}{v:Value}{pos:Pos}(hk:env.scope.kind=.function)(hx:env.kindOf x=some .globalImplicit)(hg:s.heap.Ns env.globals mg)(hv:mg x=none)
  (hb:s.heap.Ns env.builtins mb) (P2:mb x=some v)
  (hd:(x == ("__debug__":Str))=false) (h:Q v s):wpAny M A (eval (.Name x pos) env) Q E s:=
 Calls.Name_function_global hk hx (Calls.loadGlobal_builtin hg hv hb P2 h) hd
end
noncomputable def ll (g:Str→Bool)(x:Str):Bool:=(!(x == ("__debug__":Str))&&!(x == ("__classdict__":Str)))&&(!(x == ("MOST_LENGTH":Str))||g x)
theorem band {a b:Bool}(h:(a&&b)=true):a=true∧b=true:=by
 induction a<;>induction b<;>first|exact ⟨rfl,rfl⟩|exact d9 h
theorem kl {a:Bool}(h:(!a)=true):a=false:=by induction a;rfl;exact d9 h
theorem fG {c:Cx}{fr:List Addr}{pre:Heap}{G:Gh}{σ:Sg}{h:Heap}{t:T}{v:Value}(r:Rep c G t v):RV c fr pre G σ h (t,.val) v:=r
section
variable {prog:Program}{c:Cx}{A:Around}{env:PySem.Env}{L:Ev}
theorem km {α β:Type}{I:Inv (ai A)}{R:Heap→Gh→Sg→Heap→α→β→Prop}{Γ:Gh}{σ:Sg}{s:Shared}{a:α}{b:β}{res:Res α}(P:Pre c A I Γ σ s)(e:res=.ok a σ)(r:R s.heap Γ σ s.heap a b):gF c A Γ σ s R res b s:=
 ⟨a,σ,e,Γ,b0.refl s,P.st,Step.refl ..,r⟩
theorem aC.name {old:Heap}(F:Facts c){g:Str→Bool}(hg:∀x,g x=true→env.kindOf x=some .globalImplicit){x:Str}{pos:Pos}(ok:ll g x=true){G:Calls}:
  aC prog c A (cg c old (ai A) env L) (RV c (ai A)) (ag G L (.Name x pos)) (eval (.Name x pos) env):=by
 intro Γ σ s P;refine (band ok).elim fun F4 h3=>?_
 have h1:=kl (band F4).1;have E:gS c old Γ s.heap (ai A) env L:=P.inv;obtain ⟨hk,LJ,P4,m,hn,hl,Hc,_⟩:=E;show (ay (match L.loc x with|some t=>some t|none=>wD x)>>=val) σ≠.stuck→Wp _ _ _ _ _ _ _ ((ay (match L.loc x with|some t=>some t|none=>wD x)>>=val) σ) _ _
 induction hx:L.loc x with
 |some t=>
  obtain ⟨v,b,r⟩:=Hc x t hx;exact fun _=>cJ hk hn b h1 (kl (band F4).2) (km P (a:=(t,.val)) rfl (fG r))
 |none=>
  unfold wD;by_cases hm:x="MOST_LENGTH"
  ·subst hm;obtain ⟨t,ht⟩:=F.most;exact fun _=>lj hk (hg _ ((Bool.or_eq_true_iff.mp h3).elim (fun q=>absurd q (by decide)) id)) (mg:=c.mg) (by rw [LJ];exact F.g.keeps P.st.kept) ht h1 (km P (a:=(.int 1000000,.val)) rfl (fG Rep.int))
  ·rw [if_neg hm];exact fun ne=>absurd rfl ne
end
end Mine.Internal
end
section
namespace Mine.Internal
theorem Dl {n k:Nat}(h:n≤k)(hk:k≤100000):n≤PySem.sizeLine:=Nat.le_trans h (Nat.le_trans hk (by decide))
theorem qG {n:Nat}(h:n≤PySem.sizeLine):(n:Int) < 2 ^ 63:=Int.ofNat_lt.mpr (Nat.lt_of_le_of_lt h (by decide))
theorem dp {n:Nat}(h:n≤aq):n≤PySem.sizeLine:=Dl (k:=1000) h (by decide)
open PySem PySem.W PyProof.Rows
section
variable {prog:Program}{c:Cx}{A:Around}{I:Inv (ai A)}{Γ:Gh}{σ:Sg}{s:Shared}{E:Value→Shared→Prop}
theorem aH {t:T}{v:Value}{res:Res (T×Kd)}(P:Pre c A I Γ σ s)(r:Rep c Γ t v)(k:Nat)(e:res=.ok (t,.val) σ):gF c A Γ σ s (RV c (ai A)) res v {s with toks:=k}:=
 ⟨_,σ,e,Γ,⟨s.heap,k⟩,P.st,Step.refl ..,fG r⟩
theorem dZ {t:T}{v:Value}{res:Res (T×Kd)}(P:Pre c A I Γ σ s)(r:Rep c Γ t v)(e:res=.ok (t,.val) σ):gF c A Γ σ s (RV c (ai A)) res v s:=aH P r s.toks e
theorem bp (h:Heap):h.get? h.objs.size=none:=Heap.get?_none_of_le (Nat.le_refl _)
theorem aL {h:Heap}{o:Obj}:∀b o',h.get? b=some o'→(h.push o).get? b=some o':=fun _ _ e=>Heap.get?_push_of_some _ e
theorem dW.fresh {G:Gh}{h:Heap}(F:dW A G h){a:Addr}(n:h.get? a=none):a∉ai A:=fun m=>by
 obtain ⟨o,e,_⟩:=F.alive m;exact bR (n.symm.trans e)
theorem wK {t:T}{o:Obj}{res:Res (T×Kd)}(P:Pre c A I Γ σ s)(hf:o.isFreed=false)(k:Nat)(e:res=.ok (t,.own) σ)(r:mF c Γ t .own (.ref s.heap.objs.size) [(s.heap.objs.size,fun x=>x=o)]):
  gF c A Γ σ s (RV c (ai A)) res (.ref s.heap.objs.size) {s with heap:=s.heap.push o,toks:=k}:=
 have nn:=bp s.heap
 ⟨_,σ,e,Γ,⟨_,k⟩,P.st.keeps aL,Step.keeps aL P.st,cT.mk [s.heap.objs.size] ⟨_,r,rfl,nA,aY ⟨⟨o,Heap.get?_push_size _ hf,rfl⟩,P.st.loose nn,P.fr.fresh nn⟩⟩ (aY nn)⟩
theorem kq {ts:List T}{vs:List Value}{res:Res (T×Kd)}(P:Pre c A I Γ σ s)(r:az c Γ ts vs)(z:vs.length≤sizeLine)(n k:Nat)(e:res=.ok (.list ts,.own) σ):
  gF c A Γ σ s (RV c (ai A)) res (.ref s.heap.objs.size) {s with heap:=s.heap.push (aG vs n),toks:=k}:=wK P rfl k e (.list ts _ vs n z r)
theorem Heap.mL {h:Heap}(f:Facts c)(k:∀b o,c.base.get? b=some o→h.get? b=some o):(h.objs.size == sysModules)=false:=by
 obtain ⟨o,_,_,e,_⟩:=f.g;have:=Heap.lt_size (k _ _ e);refine beq_eq_false_iff_ne.mpr fun q=>?_
 rw [q] at this;exact absurd this (by decide)
theorem z5 {es:List (Str×T)}{ds:List DictEntry}{res:Res (T×Kd)}(f:Facts c)(P:Pre c A I Γ σ s)(r:aW c Γ es ds)(z:ds.length≤sizeLine)(nd:(es.map (·.1)).Nodup)(n k:Nat)(e:res=.ok (.dict es,.own) σ):
  gF c A Γ σ s (RV c (ai A)) res (.ref s.heap.objs.size) {s with heap:=s.heap.push (aB ds n),toks:=k}:=wK P rfl k e (.dict es _ ds n (Heap.mL f P.st.kept) z nd r)
theorem qH {t:T}{o:Obj}{res:Res (T×Kd)}(P:Pre c A I Γ σ s)(hf:o.isFreed=false)(k:Nat)(r:Rep c (Γ.add s.heap.objs.size o) t (.ref s.heap.objs.size))(e:res=.ok (t,.val) σ):
  gF c A Γ σ s (RV c (ai A)) res (.ref s.heap.objs.size) {s with heap:=s.heap.push o,toks:=k}:=
 have nn:=bp s.heap;have l:=P.st.loose nn
 ⟨_,σ,e,Γ.add s.heap.objs.size o,⟨_,k⟩,(P.st.keeps aL).add l (Heap.get?_push_size _ hf),(Step.keeps aL P.st).add l nn,fG r⟩
theorem aD {h:Heap}{a:Addr}{vs:List Value}{n:Nat}(e:h.get? a=some (aG vs n)):h.IsList a vs.toArray:=⟨_,e,rfl,n,rfl⟩
theorem bC:sizeLine=16777216:=by decide
theorem az.replicate {G:Gh}{t:T}{v:Value}(r:Rep c G t v):∀n:Nat,az c G (List.replicate n t) (List.replicate n v)
 |0=>az.nil
 |n+1=>az.cons r (az.replicate r n)
theorem r9 (v:Value):∀(n:Nat) (acc:List Value),List.foldl (fun x1 x2=>x1++x2) acc.toArray (List.replicate n [v].toArray)=(acc++List.replicate n v).toArray
 |0,acc=>congrArg List.toArray (List.append_nil acc).symm
 |n+1,acc=>(congrArg (fun a=>List.foldl (fun x1 x2=>x1++x2) a (List.replicate n [v].toArray)) (List.append_toArray acc [v])).trans ((r9 v n (acc++[v])).trans (congrArg List.toArray (List.append_assoc acc [v] _)))
theorem mul_one {l:Addr}{v:Value}{k:Nat}{x:Int}{u:Tok}{Q:Value→Shared→Prop}(hl:s.heap.get? l=some (aG [v] k))(MC:x≤1000)(MD:-(2 ^ 63:Int)≤x)
  (h:Q (.ref s.heap.objs.size) {s with heap:=s.heap.push (aG (List.replicate x.toNat v) 0)}):wpAny (model prog c.w) A (binaryOp .Mult (.ref l) (.int x u)) Q E s:=by
 have hz:¬Builtin.List.listTooLong ([v].toArray.size * x.toNat)=true:=by
  have h1:[v].toArray.size=1:=rfl;rw [h1];exact fun q=>Nat.not_lt.mpr (Nat.one_mul _▸dp (Int.toNat_le.mpr MC)) (of_decide_eq_true q)
 have hy:¬[v].toArray.size * x.toNat > (2 ^ 63 - 1) / 8:=by
  have h1:[v].toArray.size=1:=rfl;rw [h1];exact Nat.not_lt.mpr (Nat.one_mul _▸Nat.le_trans (Int.toNat_le.mpr MC) (by decide))
 have hf:Builtin.List.listFitsIndex x=true:=by
  exact Bool.and_eq_true_iff.mpr ⟨decide_eq_true MD,decide_eq_true (Int.lt_of_le_of_lt MC (by decide))⟩
 refine wpAny_binaryOp_repeat_ref (T:="list") (U:="int") (by decide) ⟨_,hl,rfl⟩ (fun s'=>typeIs_int s' x u) noFill_list_mul F.fills_int_mul F.slot_int_rmul repeat_list F.slot_int_index.lookup
  (call_meets F.slot_int_rmul (typeIs_int s x u) F.entry_int_rmul (F.args_int_rmul_2 _ _) (int___rmul___int_list x u l [v].toArray k)
   ⟨hl,rfl,⟨_,hl,rfl⟩,call_meets F.slot_list_mul ⟨_,hl,rfl⟩ F.entry_list_mul (F.args_list_mul_2 _ _)
    (AutoListH.list___mul___list_int_3 l [v].toArray k x u (by rw [hf];decide) hy hz)
    ⟨hl,?_⟩⟩)
 have e:(List.foldl (fun x1 x2=>x1++x2) (#[]:Array Value) (List.replicate (if [v].toArray.isEmpty=true then 0 else x.toNat) [v].toArray))=(List.replicate x.toNat v).toArray:=r9 v x.toNat [];rw [e];exact h
end
end Mine.Internal
end
section
namespace Mine.Internal
open PySem PySem.W PyProof.Rows
section
variable {prog:Program}{c:Cx}{A:Around}{I:Inv (ai A)}{Γ:Gh}{σ:Sg}{s:Shared}{E:Value→Shared→Prop}
theorem uK {x:Int}(h:aO x=true):Builtin.Int.intBits x≤64:=by
 have:x.natAbs < 1000000000000000000:=of_decide_eq_true h;have h1:x < 2 ^ 64:=Int.lt_of_le_of_lt Int.le_natAbs (Int.ofNat_lt.mpr (Nat.lt_trans this (by decide)));have h2:-x < 2 ^ 64:=Int.lt_of_le_of_lt Int.le_natAbs (Int.ofNat_lt.mpr (Nat.lt_trans (Int.natAbs_neg x▸this) (by decide)));exact intBits_le_64 (Int.neg_lt_of_neg_lt h2) h1
theorem pE {x:Int}(h:aO x=true):x.natAbs.log2 < 1920:=by
 have hx:x.natAbs < 1000000000000000000:=of_decide_eq_true h;by_cases h0:x.natAbs=0
 ·rw [h0];decide +kernel
 ·exact Nat.lt_trans ((Nat.log2_lt (k:=60) h0).mpr (Nat.lt_trans hx (by decide))) (by decide)
inductive iD:Operator→T→T→Option (T×Kd)→Prop
 |add (x y:Int):iD .Add (.int x) (.int y) (some (.int (x+y),.val))
 |sub (x y:Int):iD .Sub (.int x) (.int y) (some (.int (x - y),.val))
 |mul (x y:Int) (h:aO x=true):iD .Mult (.int x) (.int y) (some (.int (x * y),.val))
 |div (x y:Int) (h:¬(decide (y=0)||decide (1073741824≤y.natAbs))=true):iD .FloorDiv (.int x) (.int y) (some (.int (Int.fdiv x y),.val))
 |mod (x y:Int) (h:¬y=0):iD .Mod (.int x) (.int y) (some (.int (Int.fmod x y),.val))
 |pow (x y:Int) (h:(decide (0≤y)&&decide (y≤30)&&aO x)=true):iD .Pow (.int x) (.int y) (some (.int (x ^ y.toNat),.val))
 |cat (x y:Str) (h:x.length+y.length≤aq):iD .Add (.str x) (.str y) (some (.str (x++y),.val))
 |app (x y:List T) (h:x.length+y.length≤aq):iD .Add (.list x) (.list y) (some (.list (x++y),.own))
 |rep (x:T) (n:Int) (h:n≤aq∧-9223372036854775808≤n):iD .Mult (.list [x]) (.int n) (some (.list (List.replicate n.toNat x),.own))
 |no (op:Operator) (a b:T):iD op a b none
theorem iD.pos {op:Operator}{a b:T}{r:T×Kd}{c:Prop}[Decidable c](h:c→iD op a b (some r)):iD op a b (if c then some r else none):=by
 split
 ·exact h ‹_›
 ·exact .no ..
theorem iD.neg {op:Operator}{a b:T}{r:T×Kd}{c:Prop}[Decidable c](h:¬c→iD op a b (some r)):iD op a b (if c then none else some r):=by
 split
 ·exact .no ..
 ·exact h ‹_›
theorem wL (op:Operator)(a b:T):iD op a b (dy op a b):=by
 induction op with
 |Add=>cases a with
  |int x=>cases b with
   |int y=>exact .add x y
   |_=>exact .no ..
  |str x=>cases b with
   |str y=>exact .pos (.cat x y)
   |_=>exact .no ..
  |list x=>cases b with
   |list y=>exact .pos (.app x y)
   |_=>exact .no ..
  |_=>exact .no ..
 |Sub=>cases a with
  |int x=>cases b with
   |int y=>exact .sub x y
   |_=>exact .no ..
  |_=>exact .no ..
 |Mult=>cases a with
  |int x=>cases b with
   |int y=>exact .pos (.mul x y)
   |_=>exact .no ..
  |list x=>
   rcases x with _|⟨x,_|⟨_,_⟩⟩
   ·exact .no ..
   ·cases b with
    |int n=>exact .pos (.rep x n)
    |_=>exact .no ..
   ·exact .no ..
  |_=>exact .no ..
 |FloorDiv=>cases a with
  |int x=>cases b with
   |int y=>exact .neg (.div x y)
   |_=>exact .no ..
  |_=>exact .no ..
 |Mod=>cases a with
  |int x=>cases b with
   |int y=>exact .neg (.mod x y)
   |_=>exact .no ..
  |_=>exact .no ..
 |Pow=>cases a with
  |int x=>cases b with
   |int y=>exact .pos (.pow x y)
   |_=>exact .no ..
  |_=>exact .no ..
 |_=>exact .no ..
theorem Hd {op:Operator}{a b:T}{va vb:Value}(P:Pre c A I Γ σ s)(ra:Rep c Γ a va)(rb:Rep c Γ b vb)(ne:ay (dy op a b) σ≠.stuck):
  Wp prog c A (RV c (ai A)) Γ σ s (ay (dy op a b) σ) (binaryOp op va vb) s:=by
 have w:=wL op a b;generalize dy op a b=o at w ne ⊢
 induction w with
 |no=>exact absurd rfl ne
 |add x y=>induction ra.int_inv;induction rb.int_inv;exact PyProof.Rows.add_int (aH P Rep.int _ rfl)
 |sub x y=>induction ra.int_inv;induction rb.int_inv;exact PyProof.Rows.sub_int (aH P Rep.int _ rfl)
 |mul x y hs=>induction ra.int_inv;induction rb.int_inv;exact PyProof.Rows.mul_int (aH P Rep.int _ rfl) (IntMulOk.of_left (uK hs))
 |div x y hs=>
  cases ra.int_inv;induction rb.int_inv;have hs:=not_or.mp (fun q=>hs (Bool.or_eq_true_iff.mpr q));exact PyProof.Rows.floordiv_int (fun q=>hs.1 (decide_eq_true q)) (aH P Rep.int _ rfl) (.inl (PyProof.noPylong_small (Nat.lt_of_not_le fun q=>hs.2 (decide_eq_true q))))
 |mod x y hs=>induction ra.int_inv;induction rb.int_inv;exact PyProof.Rows.mod_int' hs (aH P Rep.int _ rfl)
 |pow x y hs=>
  induction ra.int_inv;induction rb.int_inv;obtain ⟨F4,h3⟩:=band hs;have h1:=of_decide_eq_true (band F4).1;have h2:=of_decide_eq_true (band F4).2;have hx:x.natAbs < 1000000000000000000:=of_decide_eq_true h3;exact PyProof.Rows.pow_int_small h1 (Int.le_trans h2 (by decide)) (Nat.lt_trans hx (by decide)) (aH P Rep.int _ rfl)
 |cat x y hs=>induction ra.str_inv;induction rb.str_inv;exact PyProof.Rows.add_str (fun t' tk=>aH P Rep.str _ rfl) (dp hs)
 |app x y hs=>
  induction ra.aX with|mk l vs n hl zl rl=>?_
  induction rb.aX with|mk b ws n' hb zb zA=>?_
  have z:(vs++ws).length≤sizeLine:=by
   rw [List.length_append,rl.length,zA.length];exact dp hs
  refine concat_meets ⟨_,P.st.obj _ _ hl,rfl⟩ ⟨_,P.st.obj _ _ hb,rfl⟩ noFill_list_add seq_list_add PySem.F.slot_list_add PySem.F.entry_list_add (PySem.F.args_list_add_2 _ _)
   (list_addW l b vs.toArray ws.toArray n n' none none #[] #[] (by simpa using z)) ⟨P.st.obj _ _ hl,P.st.obj _ _ hb,?_⟩
  rw [List.append_toArray];exact kq P (rl.append zA) z 0 s.toks rfl
 |rep x n hs=>
  induction ra.aX with|mk l vs n' hl zl rl=>?_
  induction rb.int_inv;induction rl with|mk v r r1 r2=>?_
  cases (show _=[] from r2);exact mul_one (P.st.obj _ _ hl) hs.1 hs.2 (kq P (az.replicate r1 _) (by rw [List.length_replicate];exact dp (Int.toNat_le.mpr hs.1)) 0 s.toks rfl)
end
end Mine.Internal
end
section
namespace Mine.Internal
open PySem PySem.W PyProof.Rows PySem.SeqAt
section
variable {prog:Program}{w:World}{A:Around}{E:Value→Shared→Prop}{s:Shared}
theorem aW.strs {c:Cx}{G:Gh}:∀{es:List (Str×T)} {ds:List DictEntry},aW c G es ds→ds.all (fun e=>isExactStrKey e.key)=true
 |[],_,h=>by cases (show _=[] from h);rfl
 |(k,t)::es,_,h=>by
  induction h with|mk v tk r h2 h3=>?_
  exact (aW.strs (es:=es) (ds:=r) h3 :)
theorem aW.F5 {c:Cx}{G:Gh}{es:List (Str×T)}{ds:List DictEntry}(h:aW c G es ds):ds.toArray.all (fun e=>isExactStrKey e.key)=true:=(List.all_toArray).trans h.strs
theorem He {v:Value}{x:Str}(h:v.isStr x=true):rX x v:=by
 induction v with
 |str y t=>induction eq_of_beq h;exact .mk t
 |_=>exact d9 h
theorem kr {d:Addr}{ds:List DictEntry}{n:Nat}{x:Str}{t:Tok}{hh:Int}{Q:Option Nat→Shared→Prop}(ho:s.heap.get? d=some (aB ds n))
  (hs:ds.toArray.all (fun e=>isExactStrKey e.key)=true) (h:Q (ds.toArray.findIdx? fun e=>e.key.isStr x) s):wpAny (model prog w) A (dictFind d (.str x t) hh) Q E s:=by
 unfold dictFind;refine wpAny_holding (wpAny_bind (wpAny_dictEntries ho rfl ?_));dsimp only;rw [if_pos hs];unfold foundByValue
 induction hf:ds.toArray.findIdx? (fun e=>e.key.isStr x) with
 |none=>exact wpAny_pure (hf▸h)
 |some i=>
  obtain ⟨wM,hi,_⟩:=Array.findIdx?_eq_some_iff_getElem.mp hf;rw [hf] at h;clear hf;have hg:=Array.getElem?_eq_getElem wM;generalize ds.toArray[i]=en at hi hg;dsimp only;rw [hg];dsimp only;have hk:=He hi;generalize en.key=kv at hk ⊢;refine wpAny_bind (wpAny_dictEpoch ho rfl ?_)
  induction hk with
  |mk u=>
  refine wpAny_bind (wpAny_eqBool_str (wpAny_bind (wpAny_dictEpoch ho rfl ?_)));rw [if_neg (by simp),decide_eq_true rfl];exact wpAny_bind (wpAny_rule (wpAny_pure h))
inductive o9 (c:Cx) (A:Around) (s:Shared) (eN:List DictEntry):List DictEntry→Bool→Prop
 |nil:o9 c A s eN [] true
 |miss {e:DictEntry} {x:Str} {t:Tok} {r:List DictEntry}:e.key=.str x t→(eN.toArray.findIdx? fun e=>e.key.isStr x)=none→o9 c A s eN (e::r) false
 |hit {e:DictEntry} {x:Str} {t:Tok} {i:Nat} {e':DictEntry} {r:List DictEntry} {b k:Bool}:e.key=.str x t→(eN.toArray.findIdx? fun e=>e.key.isStr x)=some i→eN.toArray[i]?=some e'→
   EqAt A s e.val e'.val b→o9 c A s eN r k→o9 c A s eN (e::r) (b&&k)
inductive OE (c:Cx) (A:Around) (s:Shared) (ds eN:List DictEntry) (r:Bool) (rest:List Nat):Option Bool×Unit→Shared→Prop
 |mk (i:Nat) (e:rest=List.range' i (ds.length - i)) (l:i≤ds.length) (h:o9 c A s eN (ds.drop i) r):OE c A s ds eN r rest (none,()) s
theorem JJ {i n:Nat}(h:i < n):n - i=(n - (i+1))+1:=(Nat.succ_pred_eq_of_pos (Nat.sub_pos_of_lt h)).symm
theorem se {x i n:Nat}{rest:List Nat}(e:x::rest=List.range' i (n - i)):x=i∧i < n∧rest=List.range' (i+1) (n - (i+1)):=by
 rcases Nat.lt_or_ge i n with h|h
 ·rw [JJ h,List.range'_succ] at e;cases e;exact ⟨rfl,h,rfl⟩
 ·rw [Nat.sub_eq_zero_of_le h] at e;cases e
theorem sf {i n:Nat}(e:[]=List.range' i (n - i))(l:i≤n):i=n:=by
 rcases Nat.lt_or_ge i n with h|h
 ·rw [JJ h,List.range'_succ] at e;cases e
 ·exact Nat.le_antisymm l h
theorem ky {c:Cx}{nm:String}{a b:Addr}{ds eN:List DictEntry}{n n':Nat}{r:Bool}{Q:Bool→Shared→Prop}(ha:(a == sysModules)=false)(hb:(b == sysModules)=false)
  (da:s.heap.get? a=some (aB ds n)) (db:s.heap.get? b=some (aB eN n')) (hs:eN.toArray.all (fun e=>isExactStrKey e.key)=true) (hits:ds.length=eN.length→o9 c A s eN ds r)
  (h:Q (ds.length == eN.length&&r) s):wpAny (model prog w) A (Builtin.Dict.samePairs nm a b) Q E s:=by
 unfold Builtin.Dict.samePairs Builtin.Dict.showsAll;rw [ha,hb,if_neg Bool.false_ne_true];refine wpAny_bind (wpAny_pure (wpAny_bind (wpAny_pure (wpAny_bind (wpAny_dictEntries da rfl (wpAny_bind (wpAny_dictEntries db rfl ?_)))))));by_cases eZ:ds.length=eN.length
 ·rw [if_neg (fun q=>(bne_iff_ne.mp q) (show ds.toArray.size=eN.toArray.size from eZ))];have h:Q r s:=by rw [beq_iff_eq.mpr eZ] at h;exact h
  refine wpAny_bind (wpAny_dictEpoch da rfl (wpAny_bind ?_));rw [Std.Legacy.Range.forIn_eq_forIn_range'];simp only [Std.Legacy.Range.size,Nat.sub_zero,Nat.add_sub_cancel,Nat.div_one,List.size_toArray];refine wpAny_forIn_list _ (OE c A s ds eN r) _ ?_ ?_ _ _ (.mk 0 rfl (Nat.zero_le _) (hits eZ))
  ·intro x rest q s' hI
   induction hI with
   |mk i e l sg=>
   obtain ⟨rfl,wM,JK⟩:=se e;refine wpAny_bind (wpAny_dictEntries da rfl ?_);have hl:x < ds.toArray.size:=wM;rw [show ds.drop x=ds.toArray[x]::ds.drop (x+1) from List.drop_eq_getElem_cons wM] at sg;rw [Array.getElem?_eq_getElem hl];show wpAny _ _ (holding [ds.toArray[x].key,ds.toArray[x].val] _>>=_) _ _ _;generalize ds.toArray[x]=en at sg ⊢
   cases sg with
   |miss hk hf=>
    rw [hk];refine wpAny_bind (wpAny_holding (wpAny_bind (kr db hs ?_)));rw [hf];exact wpAny_pure (wpAny_pure (wpAny_pure h))
   |@hit _ _ _ _ _ _ b k hk hf he eq rest=>
    rw [hk];refine wpAny_bind (wpAny_holding (wpAny_bind (kr db hs ?_)));rw [hf];refine wpAny_bind (wpAny_dictEntries db rfl ?_);rw [he];refine wpAny_holding (eq prog w _ _ ?_)
    induction b with
    |false=>exact wpAny_pure (wpAny_pure h)
    |true=>
     refine wpAny_bind (wpAny_dictEpoch da rfl ?_);rw [if_neg (fun q=>(bne_iff_ne.mp q) rfl)];exact wpAny_pure (.mk (x+1) JK wM rest)
  ·intro q s' hI
   induction hI with
   |mk i e l sg=>
   cases sf e l;rw [List.drop_length] at sg;cases sg;exact wpAny_pure h
 ·rw [if_pos (bne_iff_ne.mpr (show ds.toArray.size≠eN.toArray.size from eZ))];rw [beq_eq_false_iff_ne.mpr eZ] at h;exact wpAny_bind (wpAny_rule (wpAny_pure h))
theorem wN {c:Cx}{a b:Addr}{ds eN:List DictEntry}{n n':Nat}{r:Bool}(ha:(a == sysModules)=false)(hb:(b == sysModules)=false)
  (da:s.heap.get? a=some (aB ds n)) (db:s.heap.get? b=some (aB eN n')) (hs:eN.toArray.all (fun e=>isExactStrKey e.key)=true) (hu:A.units < cLine)
  (hits:ds.length=eN.length→o9 c A.in1 s eN ds r):RcAt A s (.ref a) (.ref b) (ds.length == eN.length&&r)∧RcNeAt A s (.ref a) (.ref b) (!(ds.length == eN.length&&r)):=by
 have ta:s.TypeIs (.ref a) "dict":=⟨_,da,rfl⟩;have tb:s.TypeIs (.ref b) "dict":=⟨_,db,rfl⟩;have args:∀{prog:Program} {w:World} {A:Around} {E:Value→Shared→Prop} {nm:String} {Q:(Value×Value)→Shared→Prop},Q (.ref a,.ref b) s→wpAny (model prog w) A (Builtin.Dict.dictSlotArgs nm ⟨[.ref a,.ref b],[]⟩) Q E s:=fun h=>
  wpAny_bind (wpAny_notOrdered_dict ta (wpAny_pure h))
 refine ⟨fun prog w E Q h=>?_,fun prog w E Q h=>?_⟩
 ·refine wpAny_richCompare_same_room (op:=.Eq) ta tb PySem.F.slot_dict_eq (wpAny_call_entry PySem.F.slot_dict_eq ta PySem.F.entry_dict_eq (wpAny_bind (args (wpAny_bind (wpAny_isInstance (T:="dict") tb PySem.F.sub_dict_dict ?_)))) (PySem.F.args_dict_eq_2 _ _)) hu;exact wpAny_bind (wpAny_pure (wpAny_bind (wpAny_pure (wpAny_bind (ky (c:=c) ha hb da db hs hits (wpAny_pure ⟨_,rfl,(fun x=>nomatch x),by rw [beq_true];exact h⟩))))))
 ·refine wpAny_richCompare_same_room (op:=.NotEq) ta tb PySem.F.slot_dict_ne (wpAny_call_entry PySem.F.slot_dict_ne ta PySem.F.entry_dict_ne (wpAny_bind (args (wpAny_bind (wpAny_isInstance (T:="dict") tb PySem.F.sub_dict_dict ?_)))) (PySem.F.args_dict_ne_2 _ _)) hu;exact wpAny_bind (wpAny_pure (wpAny_bind (wpAny_pure (wpAny_bind (ky (c:=c) ha hb da db hs hits (wpAny_pure ⟨_,rfl,(fun x=>nomatch x),by rw [beq_false];exact h⟩))))))
end
inductive Diff:T→T→Prop
 |ns (x:Str):Diff .none (.str x)
 |ni (x:Int):Diff .none (.int x)
 |nl (x:List T):Diff .none (.list x)
 |sn (x:Str):Diff (.str x) .none
 |ME (x:Int):Diff (.int x) .none
 |ln (x:List T):Diff (.list x) .none
 |st (x:Str) (y:List T):Diff (.str x) (.tup y)
 |ts (x:List T) (y:Str):Diff (.tup x) (.str y)
 |si (x:Str) (y:Int):Diff (.str x) (.int y)
 |is (x:Int) (y:Str):Diff (.int x) (.str y)
 |ls (x:List T) (y:Str):Diff (.list x) (.str y)
 |sl (x:Str) (y:List T):Diff (.str x) (.list y)
inductive uL (f:T→T→Option Bool):T→T→Option Bool→Prop
 |none:uL f .none .none (some true)
 |bool (x y:Bool):uL f (.bool x) (.bool y) (some (x == y))
 |int (x y:Int):uL f (.int x) (.int y) (some (decide (x=y)))
 |str (x y:Str):uL f (.str x) (.str y) (some (decide (x=y)))
 |list (x y:List T) (h:x.length=y.length):uL f (.list x) (.list y) (jr f x y)
 |z6 (x y:List T) (h:x.length≠y.length):uL f (.list x) (.list y) (some false)
 |tup (x y:List T) (h:x.length=y.length):uL f (.tup x) (.tup y) (jr f x y)
 |dict (x y:List (Str×T)) (h:x.length=y.length):uL f (.dict x) (.dict y) (uv f x y)
 |z7 (x y:List (Str×T)) (h:x.length≠y.length):uL f (.dict x) (.dict y) (some false)
 |diff (a b:T) (d:Diff a b):uL f a b (some false)
 |no (a b:T):uL f a b none
theorem z8 (n:Nat)(a b:T):uL (eqT n) a b (eqT (n+1) a b):=by
 cases a with
 |none=>cases b with
  |none=>exact .none
  |str x=>exact .diff _ _ (.ns x)
  |int x=>exact .diff _ _ (.ni x)
  |list x=>exact .diff _ _ (.nl x)
  |_=>exact .no ..
 |bool x=>cases b with
  |bool y=>exact .bool x y
  |_=>exact .no ..
 |int x=>cases b with
  |int y=>exact .int x y
  |none=>exact .diff _ _ (.ME x)
  |str y=>exact .diff _ _ (.is x y)
  |_=>exact .no ..
 |str x=>cases b with
  |str y=>exact .str x y
  |none=>exact .diff _ _ (.sn x)
  |tup y=>exact .diff _ _ (.st x y)
  |int y=>exact .diff _ _ (.si x y)
  |list y=>exact .diff _ _ (.sl x y)
  |_=>exact .no ..
 |list x=>cases b with
  |list y=>
   show uL _ _ _ (if x.length=y.length then jr (eqT n) x y else some false);split
   ·exact .list x y ‹_›
   ·exact .z6 x y ‹_›
  |none=>exact .diff _ _ (.ln x)
  |str y=>exact .diff _ _ (.ls x y)
  |_=>exact .no ..
 |tup x=>cases b with
  |tup y=>
   show uL _ _ _ (if x.length=y.length then jr (eqT n) x y else none);split
   ·exact .tup x y ‹_›
   ·exact .no ..
  |str y=>exact .diff _ _ (.ts x y)
  |_=>exact .no ..
 |dict x=>cases b with
  |dict y=>
   show uL _ _ _ (if x.length=y.length then uv (eqT n) x y else some false);split
   ·exact .dict x y ‹_›
   ·exact .z7 x y ‹_›
  |_=>exact .no ..
 |_=>exact .no ..
inductive I9 (f:T→T→Option Bool):List T→List T→Bool→Prop
 |nil:I9 f [] [] true
 |cons (a b:T) (as bs:List T) (k r:Bool) (h:f a b=some k) (t:I9 f as bs r):I9 f (a::as) (b::bs) (k&&r)
theorem lq {f:T→T→Option Bool}:∀{as bs:List T} {r:Bool},jr f as bs=some r→I9 f as bs r
 |[],[],_,h=>by induction Option.some.inj h;exact .nil
 |[],_::_,_,h=>nomatch h
 |_::_,[],_,h=>nomatch h
 |a::as,b::bs,r,h=>by
  have h:(match f a b with|some true=>jr f as bs|some false=>(match jr f as bs with|some _=>some false|none=>none)|none=>none)=some r:=h
  induction hf:f a b with
  |none=>rw [hf] at h;exact bR h
  |some k=>
   rw [hf] at h
   induction k with
   |true=>exact .cons a b as bs true r hf (lq h)
   |false=>
    induction hr:jr f as bs with
    |none=>rw [hr] at h;exact bR h
    |some r'=>rw [hr] at h;induction Option.some.inj h;exact .cons a b as bs false r' hf (lq hr)
theorem gU {β:Type}:∀{l:List (Str×β)} {k:Str} {b:β},(l.map (·.1)).Nodup→(k,b)∈l→l.lookup k=some b
 |[],_,_,_,h=>nomatch h
 |(k',b')::l,k,b,n,h=>by
  rw [List.map_cons,List.nodup_cons] at n;rw [List.lookup_cons];rcases List.mem_cons.mp h with e|h
  ·cases e;rw [beq_self_eq_true]
  ·rw [beq_eq_false_iff_ne.mpr (fun q:k=k'=>n.1 (q▸List.mem_map.mpr ⟨(k,b),h,rfl⟩))];exact gU n.2 h
section
variable {c:Cx}{G:Gh}
inductive z9 (c:Cx) (G:Gh) (ds:List DictEntry) (k:Str):Option T→Prop
 |miss (e:(ds.toArray.findIdx? fun e=>e.key.isStr k)=none):z9 c G ds k none
 |hit (t:T) (i:Nat) (en:DictEntry) (e:(ds.toArray.findIdx? fun e=>e.key.isStr k)=some i) (g:ds.toArray[i]?=some en) (r:Rep c G t en.val):z9 c G ds k (some t)
theorem pF {p:DictEntry→Bool}{d:DictEntry}{ds:List DictEntry}(h:p d=false):(d::ds).toArray.findIdx? p=(ds.toArray.findIdx? p).map (·+1):=by
 rw [List.findIdx?_toArray,List.findIdx?_toArray,List.findIdx?_cons,h];rfl
theorem aW.find:∀{es:List (Str×T)} {ds:List DictEntry} {k:Str},aW c G es ds→z9 c G ds k (es.lookup k)
 |[],_,k,h=>by cases (show _=[] from h);exact .miss (by rw [List.findIdx?_toArray];rfl)
 |(k',t)::es,_,k,h=>by
  induction h with|mk v tk r h2 h3=>?_
  rw [List.lookup_cons];by_cases hk:k=k'
  ·subst hk;rw [beq_self_eq_true];refine .hit t 0 ⟨c.H k,.str k tk,v⟩ ?_ rfl h2;rw [List.findIdx?_toArray,List.findIdx?_cons,show Value.isStr (.str k tk) k=true from beq_self_eq_true k];rfl
  ·rw [beq_eq_false_iff_ne.mpr hk];have e2:Value.isStr (.str k' tk) k=false:=beq_eq_false_iff_ne.mpr fun q=>hk q.symm
   have ih:=aW.find (k:=k) h3;generalize es.lookup k=o at ih
   induction ih with
   |miss e=>exact .miss ((pF e2).trans (by rw [e];rfl))
   |hit t' i en e g r=>exact .hit t' (i+1) en ((pF e2).trans (by rw [e];rfl)) (by rw [List.getElem?_toArray] at g ⊢;exact g) r
theorem mf {vs ws:List Value}{n k:Nat}(e:aG vs n=aG ws k):vs=ws:=by injection e with _ _ e;injection e with e;injection e
theorem uM {vs ws:List Value}{n k:Nat}(e:k8 vs n=k8 ws k):vs=ws:=by injection e with _ _ e;injection e with e;injection e
theorem mh {vs ws:List DictEntry}{n k:Nat}(e:aB vs n=aB ws k):vs=ws:=by injection e with _ _ e;injection e with e;injection e
theorem Diff.ne {a b:T}{v:Value}(d:Diff a b)(ra:Rep c G a v)(rb:Rep c G b v):False:=by
 induction d with
 |ns|ni|nl=>cases ra.none_inv;first|cases rb.str_inv|cases rb.int_inv|cases rb.aX
 |sn|ME|ln=>cases rb.none_inv;first|cases ra.str_inv|cases ra.int_inv|cases ra.aX
 |st|si|sl=>induction ra.str_inv;first|cases rb.int_inv|cases rb.aX|cases rb.cu
 |ts|is|ls=>induction rb.str_inv;first|cases ra.int_inv|cases ra.aX|cases ra.cu
theorem md.inv {k:Str}{p:Value→Prop}{q:List DictEntry→Prop}{en:DictEntry}{ds:List DictEntry}(x:md c k p q (en::ds)):∃t,en.key=.str k t∧p en.val∧q ds:=by
 generalize he:en::ds=l at x;induction x with|mk v t r h h'=>?_
 cases he;exact ⟨t,rfl,h,h'⟩
theorem wO {f:T→T→Option Bool}(hf:∀{a b v r},Rep c G a v→Rep c G b v→f a b=some r→r=true){as bs:List T}{r:Bool}(w:I9 f as bs r):∀{vs:List Value},az c G as vs→az c G bs vs→r=true:=by
 induction w with
 |nil=>exact fun _ _=>rfl
 |cons a b as bs k r h t ih=>
  intro vs ra rb;induction ra with|mk v q a1 a2=>?_
  obtain ⟨b1,b2⟩:Rep c G b v∧az c G bs q:=by cases rb;exact ⟨‹_›,‹_›⟩
  rw [hf a1 b1 h,ih a2 b2];rfl
theorem Aa {f:T→T→Option Bool}(hf:∀{a b v r},Rep c G a v→Rep c G b v→f a b=some r→r=true){bs:List (Str×T)}(nd:(bs.map (·.1)).Nodup):
  ∀(as JL:List (Str×T)) (ds:List DictEntry) (r:Bool),aW c G as ds→aW c G JL ds→(∀p∈JL,p∈bs)→uv f as bs=some r→r=true
 |[],_,_,_,_,_,_,q=>by induction Option.some.inj q;rfl
 |(k,t)::as,[],_,_,la,lb,_,_=>by cases (show _=[] from lb);cases la
 |(k,t)::as,(k',t')::JL,_,r,la,lb,sub,q=>by
  induction la with|mk v tk ds h2 h3=>?_
  obtain ⟨u,e,h5,h6⟩:=md.inv (show md c k' (Rep c G t') (aW c G JL) _ from lb);cases e;have hl:bs.lookup k=some t':=gU nd (sub _ (.head _));have q:(match bs.lookup k with|some b=>(match f t b with|some true=>uv f as bs|some false=>(match uv f as bs with|some _=>some false|none=>none)|none=>none)|none=>some false)=some r:=q;rw [hl] at q
  induction MF:f t t' with
  |none=>dsimp only at q;rw [MF] at q;exact bR q
  |some b=>
   cases hf h2 h5 MF;dsimp only at q;rw [MF] at q;exact Aa hf nd as JL ds r h3 h6 (fun p hp=>sub p (.tail _ hp)) q
theorem mM:∀(n:Nat) {ta tb:T} {v:Value} {r:Bool},Rep c G ta v→Rep c G tb v→eqT n ta tb=some r→r=true
 |0,_,_,_,_,_,_,h=>nomatch h
 |n+1,ta,tb,v,r,ra,rb,h=>by
  have w:=z8 n ta tb;generalize eqT (n+1) ta tb=o at w h
  induction w with
  |none=>exact (Option.some.inj h).symm
  |bool x y=>cases ra.bool_inv.symm.trans rb.bool_inv;induction Option.some.inj h;exact beq_self_eq_true x
  |int x y=>induction ra.int_inv;cases rb.int_inv;cases h;exact decide_eq_true rfl
  |str x y=>induction ra.str_inv;cases rb.str_inv;cases h;exact decide_eq_true rfl
  |list x y hl=>
   obtain ⟨a,vs,k,h2,_,h4⟩:=ra.aX
   cases rb.aX with
   |mk _ ws k' h6 _ h8=>cases mf (Option.some.inj (h2.symm.trans h6));exact wO (mM n) (lq h) h4 h8
  |z6 x y hl=>
   obtain ⟨a,vs,k,h2,_,h4⟩:=ra.aX
   cases rb.aX with
   |mk _ ws k' h6 _ h8=>cases mf (Option.some.inj (h2.symm.trans h6));exact absurd (h4.length.symm.trans h8.length) hl
  |tup x y hl=>
   obtain ⟨a,vs,k,h2,_,h4⟩:=ra.cu
   cases rb.cu with
   |mk _ ws k' h6 _ h8=>cases uM (Option.some.inj (h2.symm.trans h6));exact wO (mM n) (lq h) h4 h8
  |dict x y hl=>
   obtain ⟨a,vs,k,_,h2,_,n4,h4⟩:=ra.cI
   cases rb.cI with
   |mk _ ws k' _ h6 _ n8 h8=>cases mh (Option.some.inj (h2.symm.trans h6));exact Aa (mM n) n8 x y vs r h4 h8 (fun _ h=>h) h
  |z7 x y hl=>
   obtain ⟨a,vs,k,_,h2,_,n4,h4⟩:=ra.cI
   cases rb.cI with
   |mk _ ws k' _ h6 _ n8 h8=>cases mh (Option.some.inj (h2.symm.trans h6));exact absurd (h4.length.symm.trans h8.length) hl
  |diff a b d=>exact (d.ne ra rb).elim
  |no=>cases h
section
variable {s:Shared}{A:Around}
theorem nC {f:T→T→Option Bool}{lg:List (Str×T)}{eN:List DictEntry}(rb:aW c G lg eN)(he:∀{ta tb:T} {va vb:Value} {r:Bool},Rep c G ta va→Rep c G tb vb→f ta tb=some r→EqAt A s va vb r):
  ∀{es:List (Str×T)} {ds:List DictEntry} {r:Bool},aW c G es ds→uv f es lg=some r→o9 c A s eN ds r
 |[],_,_,ra,h=>by cases (show _=[] from ra);induction Option.some.inj h;exact .nil
 |(k,t)::es,_,r,ra,h=>by
  induction ra with|mk v tk ds h2 h3=>?_
  have hf:=aW.find (k:=k) rb;have h:(match lg.lookup k with|some b=>(match f t b with|some true=>uv f es lg|some false=>(match uv f es lg with|some _=>some false|none=>none)|none=>none)|none=>some false)=some r:=h;generalize lg.lookup k=o at h hf
  induction hf with
  |miss e=>induction Option.some.inj h;exact .miss rfl e
  |hit t' i en i1 i2 i3=>
   dsimp only at h
   induction q:f t t' with
   |none=>rw [q] at h;exact bR h
   |some b=>
    rw [q] at h
    induction b with
    |true=>exact o9.hit (b:=true) rfl i1 i2 (he h2 i3 q) (nC rb he h3 h)
    |false=>
     induction q':uv f es lg with
     |none=>rw [q'] at h;exact bR h
     |some r'=>
      rw [q'] at h;cases Option.some.inj h;exact o9.hit (b:=false) (k:=r') rfl i1 i2 (he h2 i3 q) (nC rb he h3 q')
theorem bJ {h:Heap}{a:Addr}{vs:List Value}{n:Nat}(e:h.get? a=some (k8 vs n)):h.IsTuple a vs.toArray:=⟨_,e,rfl,n,rfl⟩
inductive F6 (A:Around) (s:Shared) (vs ws:List Value) (r:Bool):Prop
 |mk (e:Nat→Bool) (hl:vs.length=ws.length) (h:∀j (h1:j < vs.toArray.size) (h2:j < ws.toArray.size),EqAt A s vs.toArray[j] ws.toArray[j] (e j)) (hr:(List.range vs.length).all e=r):F6 A s vs ws r
theorem pairs {f:T→T→Option Bool}(deep:∀{ta tb:T} {va vb:Value} {r:Bool},Rep c G ta va→Rep c G tb vb→f ta tb=some r→EqAt A s va vb r){as bs:List T}{r:Bool}(w:I9 f as bs r):
  ∀{vs ws:List Value},az c G as vs→az c G bs ws→F6 A s vs ws r:=by
 induction w with
 |nil=>
  intro vs ws ra rb;cases (show _=[] from ra);cases (show _=[] from rb);exact ⟨fun _=>true,rfl,fun j h=>absurd h (Nat.not_lt_zero j),rfl⟩
 |cons a b as bs k r h t ih=>
  intro vs ws ra rb;induction ra with|mk v vs a1 a2=>?_
  induction rb with|mk w ws b1 b2=>?_
  obtain ⟨e,hl,hp,hr⟩:=ih a2 b2;refine ⟨fun j=>match j with|0=>k|j+1=>e j,congrArg Nat.succ hl,fun j h1 h2=>?_,?_⟩
  ·induction j with
   |zero=>exact deep a1 b1 h
   |succ j=>exact hp j (Nat.lt_of_succ_lt_succ h1) (Nat.lt_of_succ_lt_succ h2)
  ·rw [List.length_cons,List.range_succ_eq_map,List.all_cons,List.all_map,←hr];rfl
structure F7 (A:Around) (s:Shared) (va vb:Value) (r:Bool):Prop where
 rc:RcAt A s va vb r
 ne:RcNeAt A s va vb (!r)
structure Hf (A:Around) (s:Shared) (va vb:Value) (r:Bool):Prop extends F7 A s va vb r where
 eq:EqAt A s va vb r
theorem Diff.at {a b:T}{va vb:Value}(S:∀a o,G.obj a=some o→s.heap.get? a=some o)(hu:A.units < cLine)(d:Diff a b)(ra:Rep c G a va)(rb:Rep c G b vb):Hf A s va vb false:=by
 induction d with
 |ns x=>cases ra.none_inv;induction rb.str_inv;exact ⟨⟨RcAt.none_str _ _,RcNeAt.none_str _ _⟩,EqAt.none_str _ _⟩
 |ni x=>cases ra.none_inv;induction rb.int_inv;exact ⟨⟨RcAt.none_int _ _,RcNeAt.none_int _ _⟩,EqAt.none_int _ _⟩
 |nl x=>cases ra.none_inv;induction rb.aX with|mk b ws k h _=>?_;exact ⟨⟨RcAt.none_list (aD (S _ _ h)) hu,RcNeAt.none_list (aD (S _ _ h)) hu⟩,EqAt.none_list (aD (S _ _ h)) hu⟩
 |sn x=>cases rb.none_inv;induction ra.str_inv;exact ⟨⟨RcAt.str_none _ _,RcNeAt.str_none _ _⟩,EqAt.str_none _ _⟩
 |ME x=>cases rb.none_inv;induction ra.int_inv;exact ⟨⟨RcAt.int_none _ _,RcNeAt.int_none _ _⟩,EqAt.int_none _ _⟩
 |ln x=>cases rb.none_inv;obtain ⟨b,ws,k,h,_⟩:=ra.aX;exact ⟨⟨RcAt.list_none (aD (S _ _ h)) hu,RcNeAt.list_none (aD (S _ _ h)) hu⟩,EqAt.list_none (aD (S _ _ h)) hu⟩
 |st x y=>induction ra.str_inv;obtain ⟨b,ws,k,h,_⟩:=rb.cu;exact ⟨⟨RcAt.str_tuple _ _ (bJ (S _ _ h)) hu,RcNeAt.str_tuple _ _ (bJ (S _ _ h)) hu⟩,EqAt.str_tuple _ _ (bJ (S _ _ h)) hu⟩
 |ts x y=>induction rb.str_inv;obtain ⟨b,ws,k,h,_⟩:=ra.cu;exact ⟨⟨RcAt.tuple_str _ _ (bJ (S _ _ h)) hu,RcNeAt.tuple_str _ _ (bJ (S _ _ h)) hu⟩,EqAt.tuple_str _ _ (bJ (S _ _ h)) hu⟩
 |si x y=>induction ra.str_inv;induction rb.int_inv;exact ⟨⟨RcAt.str_int _ _ _ _,RcNeAt.str_int _ _ _ _⟩,EqAt.str_int _ _ _ _⟩
 |is x y=>induction ra.int_inv;induction rb.str_inv;exact ⟨⟨RcAt.int_str _ _ _ _,RcNeAt.int_str _ _ _ _⟩,EqAt.int_str _ _ _ _⟩
 |ls x y=>induction rb.str_inv;obtain ⟨b,ws,k,h,_⟩:=ra.aX;exact ⟨⟨RcAt.list_str _ _ (aD (S _ _ h)) hu,RcNeAt.list_str _ _ (aD (S _ _ h)) hu⟩,EqAt.list_str _ _ (aD (S _ _ h)) hu⟩
 |sl x y=>induction ra.str_inv;obtain ⟨b,ws,k,h,_⟩:=rb.aX;exact ⟨⟨RcAt.str_list _ _ (aD (S _ _ h)) hu,RcNeAt.str_list _ _ (aD (S _ _ h)) hu⟩,EqAt.str_list _ _ (aD (S _ _ h)) hu⟩
theorem up {n:Nat}{ta tb:T}{a b:Addr}{r:Bool}(ra:Rep c G ta (.ref a))(rb:Rep c G tb (.ref b))(h:eqT n ta tb=some r)(x:F7 A s (.ref a) (.ref b) r):Hf A s (.ref a) (.ref b) r:=by
 refine ⟨x,?_⟩;by_cases OF:a=b
 ·subst OF;rw [mM n ra rb h];exact EqAt.same _
 ·exact EqAt.of_refs OF x.rc
theorem Dm {α β:Type}{a:List α}{b:List β}(h:a.length=b.length):(a.length == b.length)=true:=beq_iff_eq.mpr h
theorem Ab (S:∀a o,G.obj a=some o→s.heap.get? a=some o):∀(n:Nat) {A:Around} {ta tb:T} {va vb:Value} {r:Bool},A.units+n < cLine→Rep c G ta va→Rep c G tb vb→eqT n ta tb=some r→Hf A s va vb r
 |0,_,_,_,_,_,_,_,_,_,h=>nomatch h
 |n+1,A,ta,tb,va,vb,r,hu,ra,rb,h0=>by
  have Dn:A.units < cLine:=Nat.lt_of_le_of_lt (Nat.le_add_right _ _) hu
  have deep:∀{ta tb:T} {va vb:Value} {r:Bool},Rep c G ta va→Rep c G tb vb→eqT n ta tb=some r→EqAt A.in1 s va vb r:=
   fun ra rb h=>(Ab S n (A:=A.in1) (by show A.units+1+n < cLine;rw [Nat.add_assoc,Nat.add_comm 1];exact hu) ra rb h).eq
  have w:=z8 n ta tb;have h:=h0;generalize eqT (n+1) ta tb=o at w h
  induction w with
  |none=>induction Option.some.inj h;cases ra.none_inv;cases rb.none_inv;exact ⟨⟨RcAt.none_none,RcNeAt.none_none⟩,EqAt.same _⟩
  |bool x y=>cases h;cases ra.bool_inv;cases rb.bool_inv;exact ⟨⟨RcAt.bool_bool _ _,RcNeAt.bool_bool _ _⟩,EqAt.bool_bool _ _⟩
  |int x y=>cases h;clear h0;induction ra.int_inv;induction rb.int_inv;exact ⟨⟨RcAt.int_int _ _ _ _,RcNeAt.int_int _ _ _ _⟩,EqAt.int_int _ _ _ _⟩
  |str x y=>cases h;clear h0;induction ra.str_inv;induction rb.str_inv;exact ⟨⟨RcAt.str_str _ _ _ _,RcNeAt.str_str _ _ _ _⟩,EqAt.str_str _ _ _ _⟩
  |list x y hl=>
   have Dp:=ra;have zA:=rb;obtain ⟨a,vs,k,h2,_,h4⟩:=Dp.aX;obtain ⟨b,ws,k',h6,_,h8⟩:=zA.aX;obtain ⟨e,hs,hp,rfl⟩:=pairs deep (lq h) h4 h8;exact up ra rb h0 ⟨RcAt.lists (aD (S _ _ h2)) (aD (S _ _ h6)) hs Dn hp,RcNeAt.lists (aD (S _ _ h2)) (aD (S _ _ h6)) hs Dn hp⟩
  |z6 x y hl=>
   cases h;have Dp:=ra;have zA:=rb;obtain ⟨a,vs,k,h2,_,h4⟩:=Dp.aX;obtain ⟨b,ws,k',h6,_,h8⟩:=zA.aX;have hs:(vs.toArray.size != ws.toArray.size)=true:=bne_iff_ne.mpr fun q=>hl (h4.length.symm.trans (Eq.trans q h8.length))
   exact up ra rb h0 ⟨RcAt.lists_lengths (aD (S _ _ h2)) (aD (S _ _ h6)) hs Dn,RcNeAt.lists_lengths (aD (S _ _ h2)) (aD (S _ _ h6)) hs Dn⟩
  |tup x y hl=>
   have Dp:=ra;have zA:=rb;obtain ⟨a,vs,k,h2,_,h4⟩:=Dp.cu;obtain ⟨b,ws,k',h6,_,h8⟩:=zA.cu;obtain ⟨e,hs,hp,rfl⟩:=pairs deep (lq h) h4 h8;have q1:=RcAt.tuples (e:=e) (bJ (S _ _ h2)) (bJ (S _ _ h6)) Dn hp;have q2:=RcNeAt.tuples (e:=e) (bJ (S _ _ h2)) (bJ (S _ _ h6)) Dn hp;exact up ra rb h0 ⟨by simpa [hs] using q1,by simpa [hs] using q2⟩
  |dict x y hl=>
   have Dp:=ra;have zA:=rb;obtain ⟨a,vs,k,m1,h2,_,n4,h4⟩:=Dp.cI;obtain ⟨b,ws,k',m2,h6,_,n8,h8⟩:=zA.cI;have q:=wN (c:=c) (r:=r) m1 m2 (S _ _ h2) (S _ _ h6) h8.F5 Dn (fun _=>nC h8 deep h4 h);rw [Dm (h4.length.trans (hl.trans h8.length.symm))] at q;exact up ra rb h0 ⟨q.1,q.2⟩
  |z7 x y hl=>
   cases h;have Dp:=ra;have zA:=rb;obtain ⟨a,vs,k,m1,h2,_,n4,h4⟩:=Dp.cI;obtain ⟨b,ws,k',m2,h6,_,n8,h8⟩:=zA.cI;have hn:vs.length≠ws.length:=fun q=>hl (h4.length.symm.trans (q.trans h8.length))
   have q:=wN (c:=c) (r:=false) m1 m2 (S _ _ h2) (S _ _ h6) h8.F5 Dn (fun q=>absurd q hn);rw [Bool.and_false] at q;exact up ra rb h0 ⟨q.1,q.2⟩
  |diff a b d=>cases h;exact d.at S Dn ra rb
  |no=>cases h
end
end
section
variable {prog:Program}{c:Cx}{G:Gh}{h:Heap}
theorem aW.mem:∀{es:List (Str×T)} {ds:List DictEntry},aW c G es ds→∀e∈ds,∃k t,e.key=.str k t∧e.hash=c.H k
 |[],_,h=>by cases (show _=[] from h);exact fun _ q=>nomatch q
 |(k,t)::es,_,h=>by
  induction h with|mk v tk r h2 h3=>?_
  exact List.forall_mem_cons.mpr ⟨⟨k,tk,rfl,rfl⟩,aW.mem h3⟩
theorem mapOf {a:Addr}{es:List (Str×T)}{ds:List DictEntry}{n:Nat}(e:h.get? a=some (aB ds n))(r:aW c G es ds):
  h.MapOf (strKind prog c.w) a (fun k=>findBy Value.isStrOf ds.toArray k):=
 ⟨_,ds.toArray,n,e,⟨rfl,rfl,rfl⟩,rfl,fun e he=>by
  obtain ⟨k,t,e1,e2⟩:=r.mem e (Array.mem_toList_iff.mpr he);exact ⟨k,by rw [e1];exact strKind_is prog c.w k t,e2⟩,fun _=>rfl⟩
inductive MG (c:Cx) (G:Gh) (ds:List DictEntry) (k:Str):Option T→Prop
 |miss (e:findBy Value.isStrOf ds.toArray k=none):MG c G ds k none
 |hit (t:T) (v:Value) (e:findBy Value.isStrOf ds.toArray k=some v) (r:Rep c G t v):MG c G ds k (some t)
theorem jI {es:List (Str×T)}{ds:List DictEntry}(r:aW c G es ds)(k:Str):MG c G ds k (es.lookup k):=by
 have q:=aW.find (k:=k) r
 have e:findBy Value.isStrOf ds.toArray k=(ds.toArray.findIdx? fun e=>e.key.isStr k).bind fun i=>ds.toArray[i]?.map (·.val):=by
  rw [findBy_of_findIdx?,show (fun e:DictEntry=>Value.isStrOf k e.key)=fun e=>e.key.isStr k from funext fun d=>(isStr_of k d.key).symm];induction ds.toArray.findIdx? fun e=>e.key.isStr k<;>rfl
 generalize es.lookup k=o at q ⊢
 induction q with
 |miss q=>exact .miss (by rw [e,q];rfl)
 |hit t i en q g r=>exact .hit t en.val (by rw [e,q];exact congrArg (Option.map _) g) r
theorem jA {es:List (Str×T)}{ds:List DictEntry}(r:aW c G es ds)(k:Str):(findBy Value.isStrOf ds.toArray k).isSome=(es.lookup k).isSome:=by
 have q:=jI r k;generalize es.lookup k=o at q
 induction q with
 |miss e=>rw [e];rfl
 |hit t v e _=>rw [e];rfl
end
section
variable {prog:Program}{c:Cx}{A:Around}{I:Inv (ai A)}{Γ:Gh}{σ:Sg}{s:Shared}{E:Value→Shared→Prop}
inductive qI (c:Cx) (h:Heap):Value→Prop
 |mk (a d:Addr) (o:Obj) (e:h.get? a=some (instObj c.vec d)) (e':h.get? d=some o):qI c h (.ref a)
noncomputable def Look (c:Cx)(G:Gh)(h:Heap):T→Value→Prop
 |.list ts=>eK h.get? aG (az c G ts)
 |.dict es=>gE h.get? (es.map (·.1)) (aW c G es)
 |.vec ..=>qI c h
 |t=>Rep c G t
theorem Rep.look {G:Gh}{σ:Sg}{h:Heap}{t:T}{v:Value}(S:St c G σ h)(r:Rep c G t v):Look c G h t v:=by
 cases t with
 |list ts=>exact eK.mono r S.obj fun _=>id
 |dict es=>exact gE.mono r S.obj fun _=>id
 |vec k ah at'=>
  induction r with|mk a d b t vs n ia e i _=>?_
  refine ((S.gk _ _ i).ex).elim fun o q=>?_
  exact qI.mk a d o (S.obj _ _ e) q
 |_=>exact r
theorem wJ.look {G:Gh}{σ:Sg}{h:Heap}{t:T}{v:Value}(r:wJ c G σ h t v):Look c G h t v:=by
 obtain ⟨es,sv,a,d,ik,ii,rfl,_,_,_,_,q⟩:=r;induction q with|mk D ds n m _ _ h1 z nd h2=>?_
 exact gE.mk D ds n m h1 z nd h2
theorem aF.look {G:Gh}{h:Heap}{fr:List Addr}{t:T}{k:Kd}{v:Value}{as:List Addr}(y:aF c G h fr t k v as):Look c G h t v:=by
 have y':=y;obtain ⟨ps,r,e,-,-⟩:=y';clear e
 induction r with
 |list=>obtain ⟨_,vs,n,e,z,r,_⟩:=y.l;exact eK.mk _ vs n e z r
 |dict=>obtain ⟨_,ds,n,m,e,z,nd,r,_⟩:=y.d;exact gE.mk _ ds n m e z nd r
 |vec=>obtain ⟨_,d,t,ii,ia,_,e,i,_⟩:=y.i;obtain ⟨o,q⟩:=i.ex;exact qI.mk _ d o e q
 |io=>obtain ⟨_,d,b,t,ia,vs,n,_,_,_,e,i,_⟩:=y.o;obtain ⟨o,q⟩:=i.ex;exact qI.mk _ d o e q
inductive x8 (A:Around) (s:Shared) (vx:Value) (vs:List Value) (r:Bool):Prop
 |mk (e:Value→Bool) (h:∀y,y∈vs.toArray→EqAt A s y vx (e y)) (hr:vs.toArray.any e=r):x8 A s vx vs r
theorem pG {G:Gh}{A:Around}{vx:Value}{e:Value→Bool}{p:T→Bool}(hit:∀t y,Rep c G t y→fV t=true→EqAt A s y vx (e y)∧e y=p t):
  ∀{ts:List T} {vs:List Value},az c G ts vs→ts.all fV=true→(∀y∈vs,EqAt A s y vx (e y))∧vs.any e=ts.any p
 |[],_,rl,_=>by cases (show _=[] from rl);exact ⟨(fun _ q=>nomatch q),rfl⟩
 |t::ts,_,rl,ha=>by
  induction rl with|mk v r h1 h2=>?_
  refine (band ha).elim fun a1 a2=>?_
  refine (hit t v h1 a1).elim fun q1 q2=>?_
  refine (pG hit h2 a2).elim fun i1 i2=>?_
  exact ⟨List.forall_mem_cons.mpr ⟨q1,i1⟩,by rw [List.any_cons,List.any_cons,q2,i2]⟩
theorem x8.of {G:Gh}{A:Around}{vx:Value}{e:Value→Bool}{p:T→Bool}{ts:List T}{vs:List Value}{r:Bool}(rl:az c G ts vs)(hit:∀t y,Rep c G t y→fV t=true→EqAt A s y vx (e y)∧e y=p t)
  (h:(if ts.all fV=true then some (ts.any p) else none)=some r):x8 A s vx vs r:=by
 by_cases ha:ts.all fV=true
 ·rw [if_pos ha] at h;refine (pG hit rl ha).elim fun q1 q2=>?_
  exact ⟨e,fun y hy=>q1 y (Array.mem_toList_iff.mpr hy),(List.any_toArray).trans (q2.trans (Option.some.inj h))⟩
 ·rw [if_neg ha] at h;exact bR h
theorem sj {G:Gh}{A:Around}{x:T}{vx:Value}{ts:List T}{vs:List Value}{r:Bool}(rx:Rep c G x vx)(rl:az c G ts vs)(h:rW x ts=some r):x8 A s vx vs r:=by
 cases x with
 |str k=>
  induction rx.str_inv with
  |mk u=>
  refine x8.of (e:=fun y=>y.isStr k) rl (fun t y ry hf=>?_) h
  cases t with
  |none=>cases ry.none_inv;exact ⟨EqAt.none_str _ _,rfl⟩
  |int i=>induction ry.int_inv;exact ⟨EqAt.int_str _ _ _ _,rfl⟩
  |str z=>induction ry.str_inv;exact ⟨EqAt.str_str _ _ _ _,rfl⟩
  |_=>exact d9 hf
 |none=>
  cases rx.none_inv;refine x8.of (e:=fun y=>y == .none) rl (fun t y ry hf=>?_) h
  cases t with
  |none=>cases ry.none_inv;exact ⟨EqAt.same _,rfl⟩
  |int i=>induction ry.int_inv;exact ⟨EqAt.int_none _ _,rfl⟩
  |str z=>induction ry.str_inv;exact ⟨EqAt.str_none _ _,rfl⟩
  |_=>exact d9 hf
 |_=>exact bR h
inductive Hg (f:Int→Int→Bool):T→T→Option Bool→Prop
 |mk (x y:Int):Hg f (.int x) (.int y) (some (f x y))
 |no (a b:T):Hg f a b none
theorem Dq (f:Int→Int→Bool)(a b:T):Hg f a b (jE f a b):=by
 cases a with
 |int x=>cases b with
  |int y=>exact .mk x y
  |_=>exact .no ..
 |_=>exact .no ..
inductive MH (a:T):T→Option Bool→Prop
 |mk:MH a .none (some (fU a))
 |no (b:T):MH a b none
theorem Hh (a b:T):MH a b (Jy a b):=by
 cases b with
 |none=>exact .mk
 |_=>exact .no _
inductive JM:T→T→Option Bool→Prop
 |list (x:T) (ts:List T):JM x (.list ts) (rW x ts)
 |tup (x:T) (ts:List T):JM x (.tup ts) (rW x ts)
 |dict (k:Str) (es:List (Str×T)):JM (.str k) (.dict es) (some (es.lookup k).isSome)
 |no (a b:T):JM a b none
theorem Hi (a b:T):JM a b (Jz a b):=by
 cases b with
 |list ts=>exact .list a ts
 |tup ts=>exact .tup a ts
 |dict es=>cases a with
  |str k=>exact .dict k es
  |_=>exact .no ..
 |_=>exact .no ..
noncomputable def MI (c:Cx)(G:Gh)(h:Heap)(t:T)(v:Value):CmpOp→Prop
 |.In=>Look c G h t v
 |_=>Rep c G t v
def RC (op:CmpOp)(c:Cx)(_:Heap)(G:Gh)(_:Sg)(h:Heap)(t:T)(v:Value):Prop:=MI c G h t v op
theorem pH {t:T}{v:Value}(r:Rep c Γ t v):(v == .none)=fU t:=by
 cases t with
 |none=>cases r.none_inv;rfl
 |bool=>cases r.bool_inv;rfl
 |int=>induction r.int_inv;rfl
 |str=>induction r.str_inv;rfl
 |tup=>induction r.cu;rfl
 |list=>induction r.aX;rfl
 |dict=>induction r.cI;rfl
 |vec k ah at'=>induction (show qC c Γ k (az c Γ ah) (Rep c Γ at') v from r);rfl
 |null=>induction (show qD c Γ v from r);rfl
 |range a b=>induction (show qE Γ a b v from r);rfl
 |row=>induction (show rY Γ v from r);rfl
 |self=>induction (show o7 Γ v from r);rfl
def gn (prog:Program)(c:Cx)(A:Around)(s:Shared)(op:CmpOp)(va vb:Value)(r:Bool):Prop:=
 ∀(E Q:Value→Shared→Prop),(∀k,Q (.bool r) {s with toks:=k})→wpAny (model prog c.w) A (compareOp op va vb) Q E s
theorem qJ {o:Option Bool}{r:Bool}(h:o.map (!·)=some r):o=some (!r):=by
 induction o with
 |none=>exact bR h
 |some b=>induction Option.some.inj h;rw [Bool.not_not]
theorem qK {f:Int→Int→Bool}{op:CmpOp}{a b:T}{va vb:Value}{r:Bool}(k:∀x y t u,gn prog c A s op (.int x t) (.int y u) (f x y))(ra:Rep c Γ a va)(rb:Rep c Γ b vb)(h:jE f a b=some r):gn prog c A s op va vb r:=by
 have w:=Dq f a b;generalize jE f a b=o at w h
 induction w with
 |mk x y=>induction Option.some.inj h;induction ra.int_inv;induction rb.int_inv;exact fun E Q q=>k _ _ _ _ E Q q
 |no=>exact bR h
theorem F8 {op:CmpOp}{a b:T}{va vb:Value}{r:Bool}(g:Bool→Bool)(k:gn prog c A s op va .none (g (fU a)))(rb:Rep c Γ b vb)(h:Jy a b=some r):gn prog c A s op va vb (g r):=by
 have w:=Hh a b;generalize Jy a b=o at w h
 induction w with
 |mk=>induction Option.some.inj h;cases rb.none_inv;exact fun E Q q=>k E Q q
 |no=>exact bR h
theorem F9 {a b:T}{va vb:Value}{r:Bool}(P:Pre c A I Γ σ s)(ra:Rep c Γ a va)(rb:Look c Γ s.heap b vb)(h:Jz a b=some r):gn prog c A s .In va vb r∧gn prog c A s .NotIn va vb (!r):=by
 have w:=Hi a b;generalize Jz a b=o at w h
 induction w with
 |list x ts=>
  obtain ⟨b,ws,k,h6,_,h8⟩:=(show eK s.heap.get? aG (az c Γ ts) vb from rb);obtain ⟨e,he,rfl⟩:=sj (A:=A.in1) (s:=s) ra h8 h;exact ⟨fun E Q q=>PySem.SeqAt.in_listAt e (aD h6) he (q s.toks),fun E Q q=>PySem.SeqAt.notIn_listAt e (aD h6) he (q s.toks)⟩
 |tup x ts=>
  obtain ⟨b,ws,k,h6,_,h8⟩:=Rep.cu (show Rep c Γ (.tup ts) vb from rb);obtain ⟨e,he,rfl⟩:=sj (A:=A.in1) (s:=s) ra h8 h;exact ⟨fun E Q q=>PySem.SeqAt.in_tupleAt e (bJ (P.st.obj _ _ h6)) he (q s.toks),fun E Q q=>PySem.SeqAt.notIn_tupleAt e (bJ (P.st.obj _ _ h6)) he (q s.toks)⟩
 |dict k es=>
  induction Option.some.inj h;induction (show gE s.heap.get? (es.map (·.1)) (aW c Γ es) vb from rb) with|mk b ds k' m h6 _ _ h8=>?_
  induction ra.str_inv with
  |mk u=>
  refine ⟨fun E Q q=>wpAny_in_of (strKind_is prog c.w k u) m (mapOf (prog:=prog) h6 h8) ?_,fun E Q q=>wpAny_notIn_of (strKind_is prog c.w k u) m (mapOf (prog:=prog) h6 h8) ?_⟩
  ·rw [jA h8];exact q _
  ·rw [jA h8];exact q _
 |no=>exact bR h
theorem Dr {op:CmpOp}{a b:T}{va vb:Value}{r:Bool}(P:Pre c A I Γ σ s)(hu:A.units+50 < cLine)(ra:Rep c Γ a va)(rb:MI c Γ s.heap b vb op)(h:qB op a b=some r):gn prog c A s op va vb r:=by
 have OG:A.units+wC < cLine:=Nat.lt_of_le_of_lt (Nat.add_le_add_left (by decide) _) hu
 induction op with
 |Lt=>exact qK (fun _ _ _ _ E Q q=>PyProof.Rows.lt_int (q s.toks)) ra rb h
 |LtE=>exact qK (fun _ _ _ _ E Q q=>PyProof.Rows.le_int (q s.toks)) ra rb h
 |Gt=>exact qK (fun _ _ _ _ E Q q=>PyProof.Rows.gt_int (q s.toks)) ra rb h
 |GtE=>exact qK (fun _ _ _ _ E Q q=>PyProof.Rows.ge_int (q s.toks)) ra rb h
 |Is=>exact F8 id (fun E Q q=>is_none (by rw [pH ra];exact q s.toks)) rb h
 |IsNot=>exact Bool.not_not r▸F8 (r:=!r) (!·) (fun E Q q=>isNot_none (by rw [pH ra];exact q s.toks)) rb (qJ h)
 |Eq=>exact fun E Q q=>(Ab P.st.obj wC OG ra rb h).rc prog c.w E Q (q s.toks)
 |NotEq=>exact fun E Q q=>(Ab P.st.obj wC OG ra rb (qJ h)).ne prog c.w E Q (by rw [Bool.not_not];exact q s.toks)
 |In=>exact (F9 P ra rb h).1
 |NotIn=>exact Bool.not_not r▸(F9 P ra (Rep.look P.st rb) (qJ h)).2
theorem Hj {r:Addr}{vs:List Value}{ns:List Int}{vb:Value}(P:Pre c A I Γ σ s)(hu:A.units < cLine)(hl:s.heap.IsList r vs.toArray)(hi:IntsAre vs ns)(rb:Rep c Γ (.list []) vb):gn prog c A s .NotEq (.ref r) vb (!ns.isEmpty):=by
 induction rb.aX with|mk b ws k' h6 _ h8=>?_
 cases (show _=[] from h8);have hb:=aD (P.st.obj _ _ h6);have hlen:vs.length=ns.length:=hi.length;intro E Q q
 cases vs with
 |nil=>cases List.length_eq_zero_iff.mp hlen.symm;exact RcNeAt.lists (e:=fun _=>true) hl hb rfl hu (fun i hi=>absurd hi (Nat.not_lt_zero i)) prog c.w E Q (q s.toks)
 |cons v vs=>induction ns with
  |nil=>cases hlen
  |cons n ns=>exact RcNeAt.lists_lengths hl hb rfl hu prog c.w E Q (q s.toks)
inductive KW (op:CmpOp) (a:T×Kd) (b:T) (σ:Sg):Res T→Prop
 |OH (hk:a.2=.h) (e:op=.Is) (hb:b=.none):KW op a b σ (.ok (.bool false) σ)
 |JN (hk:a.2=.h) (e:op=.IsNot) (hb:b=.none):KW op a b σ (.ok (.bool true) σ)
 |row (e:op=.NotEq) (ha:a.1=.row) (hb:b=.list []) (r:List Int) (hr:σ.row=some r):KW op a b σ (.ok (.bool (!r.isEmpty)) σ)
 |cmp (hk:a.2≠.h) (r:Bool) (h:qB op a.1 b=some r):KW op a b σ (.ok (.bool r) σ)
 |no:KW op a b σ .stuck
theorem qL {op:CmpOp}{a:T×Kd}{b:T}{σ:Sg}(hk:a.2≠.h):KW op a b σ (match qB op a.1 b with|some r=>.ok (.bool r) σ|none=>.stuck):=by
 induction h:qB op a.1 b with
 |none=>exact .no
 |some r=>exact .cmp hk r h
theorem JO (op:CmpOp)(a:T×Kd)(b:T)(σ:Sg):KW op a b σ (fi op a b σ):=by
 unfold fi;by_cases hk:a.2=.h
 ·rw [if_pos hk]
  induction op with
  |Is=>cases b with
   |none=>exact .OH hk rfl rfl
   |_=>exact .no
  |IsNot=>cases b with
   |none=>exact .JN hk rfl rfl
   |_=>exact .no
  |_=>exact .no
 ·rw [if_neg hk];obtain ⟨a,k⟩:=a
  induction op with
  |NotEq=>cases a with
   |row=>cases b with
    |list l=>cases l with
     |nil=>
      show KW _ _ _ _ (match σ.row with|some r=>.ok (.bool (!r.isEmpty)) σ|none=>.stuck)
      induction h:σ.row with
      |none=>exact .no
      |some r=>exact .row rfl rfl rfl r h
     |cons=>exact qL (a:=(.row,k)) hk
    |_=>exact qL (a:=(.row,k)) hk
   |_=>exact qL (a:=(_,k)) hk
  |_=>exact qL (a:=(a,k)) hk
theorem Hk {op:CmpOp}{a:T×Kd}{b:T}{pre pre':Heap}{va vb:Value}(P:Pre c A I Γ σ s)(hu:A.units+50 < cLine)(ra:RW c pre Γ σ s.heap a va)(rb:RC op c pre' Γ σ s.heap b vb)(ne:fi op a b σ≠.stuck):
  ∃r,fi op a b σ=.ok (.bool r) σ∧gn prog c A s op va vb r:=by
 have w:=JO op a b σ;have rb:MI c Γ s.heap b vb op:=rb;generalize fi op a b σ=o at w ne ⊢;have ra:pD c Γ a va:=ra
 induction w with
 |OH hk e hb=>
  subst e hb;cases Rep.none_inv (show Rep c Γ _ vb from rb)
  cases ra with
  |h _ es x e1 e2=>subst e2;exact ⟨_,rfl,fun E Q q=>is_none (q s.toks)⟩
  |rep n=>exact absurd hk n
 |JN hk e hb=>
  subst e hb;cases Rep.none_inv (show Rep c Γ _ vb from rb)
  cases ra with
  |h _ es x e1 e2=>subst e2;exact ⟨_,rfl,fun E Q q=>isNot_none (q s.toks)⟩
  |rep n=>exact absurd hk n
 |row e ha hb r hr=>
  subst e hb
  induction ra with
  |h _ es x e1 e2=>cases ha.symm.trans e1
  |rep n x=>
   rw [ha] at x;induction (show rY Γ va from x) with|mk y hx=>?_
   have R:=P.st.row;rw [hr] at R;obtain ⟨r',vs,n,w1,w2,w3,w4,_⟩:=R;induction Option.some.inj (hx.symm.trans w1);exact ⟨_,rfl,Hj P (Nat.lt_of_le_of_lt (Nat.le_add_right _ _) hu) (aD w3) w4 rb⟩
 |cmp hk r h=>
  induction ra with
  |h q=>exact absurd q hk
  |rep _ x=>exact ⟨_,rfl,Dr P hu x rb h⟩
 |no=>exact absurd rfl ne
end
section
variable {α β γ:Type}
theorem M.aZ {m:M α}{f:α→M β}{σ σ':Sg}{a:α}(e:m σ=.ok a σ'):(m>>=f) σ=f a σ':=M.nB e
theorem M.cU {m:M α}{f:α→M β}{σ σ':Sg}{x:Str}(e:m σ=.ct x σ'):(m>>=f) σ=.ct x σ':=M.pC e
theorem M.aT {m:M α}{f:α→M β}{σ:Sg}(ne:(m>>=f) σ≠.stuck):m σ≠.stuck:=M.r7 ne
theorem M.assoc (m:M α)(f:α→M β)(g:β→M γ):((m>>=f)>>=g)=(m>>=fun a=>f a>>=g):=by
 funext σ;show M.bind (M.bind m f) g σ=M.bind m (fun a=>M.bind (f a) g) σ;unfold M.bind;induction m σ<;>rfl
theorem kz {o:Option α}{f:α→M β}{σ:Sg}(ne:(ay o>>=f) σ≠.stuck):∃a,o=some a:=by
 induction o with
 |none=>exact absurd rfl ne
 |some a=>exact ⟨a,rfl⟩
end
inductive wQ (c:Cx) (G:Gh) (σ:Sg) (h:Heap) (r:T×Kd) (v:Value):Prop
 |h (k:r.2=.h) (x:wJ c G σ h r.1 v):wQ c G σ h r v
 |rep (n:r.2≠.h) (x:Rep c G r.1 v):wQ c G σ h r v
def RF (c:Cx)(_:Heap)(G:Gh)(σ:Sg)(h:Heap)(r:T×Kd)(v:Value):Prop:=wQ c G σ h r v
def RL (c:Cx)(_:Heap)(G:Gh)(_:Sg)(h:Heap)(t:T)(v:Value):Prop:=Look c G h t v
structure P5 (c:Cx) (G:Gh) (r:T×Kd) (v:Value):Prop where
 n:r.2≠.h
 r:Rep c G r.1 v
def RS (c:Cx)(_:Heap)(G:Gh)(_:Sg)(_:Heap)(r:T×Kd)(v:Value):Prop:=P5 c G r v
theorem js.at' {α:Type}{n:Prop}{f:α→Prop}{o:Option α}{a:α}(x:js n f o)(e:o=some a):f a:=by subst e;exact x
theorem js.no {α:Type}{n:Prop}{f:α→Prop}{o:Option α}(x:js n f o)(e:o=none):n:=by subst e;exact x
noncomputable def idOf (o:Obj):Value×Value×Value:=match o.data with
 |.dict ds _=>(match ds.toList with
  |a::b::c::_=>(a.val,b.val,c.val)
  |_=>(.none,.none,.none))
 |_=>(.none,.none,.none)
theorem cV {h:Heap}{a:Addr}{o o':Obj}(e:h.get? a=some o)(e':h.get? a=some o'):o=o':=Option.some.inj (e.symm.trans e')
section
variable {prog:Program}{c:Cx}{A:Around}{I:Inv (ai A)}{α β γ δ:Type}{Γ af:Gh}{σ aa:Sg}{s s₁:Shared}
theorem RF.weak {pre h:Heap}{r:T×Kd}{v:Value}(x:RF c pre Γ σ h r v):RW c pre Γ σ h r v:=by
 induction (show wQ c Γ σ h r v from x) with
 |h k x=>
  obtain ⟨es,_,_,_,_,_,e,_,_,_,_,y⟩:=x;induction y with|mk D=>?_
  exact .h k es D e rfl
 |rep n x=>exact .rep n x
theorem RW.step {pre pre' h h':Heap}{fr:List Addr}{r:T×Kd}{v:Value}(x:RW c pre Γ σ h r v)(y:Step fr Γ σ h af aa h'):RW c pre' af aa h' r v:=by
 induction (show pD c Γ r v from x) with
 |h a b d e f=>exact .h a b d e f
 |rep n x=>exact .rep n (Rep.mono y.le _ _ x)
theorem uw.val {x:Value×Value×Value}{o:Obj}(p:uw c x o):idOf o=x:=by induction p with|mk =>?_;rfl
theorem bx.inj {h:Heap}{d:Addr}{x y:Value×Value×Value}(p:bx c h d x)(q:bx c h d y):x=y:=by
 obtain ⟨o,e,p⟩:=p;obtain ⟨o',e',q⟩:=q;exact p.val.symm.trans ((congrArg idOf (cV e e')).trans q.val)
theorem uw.uN {x:Value×Value×Value}{o:Obj}(p:uw c x o){vs:Array Value}(e:o.data=.fields vs):False:=by induction p with|mk =>?_;cases e
theorem uw.Ds {x:Value×Value×Value}{o:Obj}(p:uw c x o){vs:Array Value}{n:Nat}(e:o.data=.seq vs n):False:=by induction p with|mk =>?_;cases e
theorem St.rowAt {h:Heap}{ns:List Int}(S:St c Γ σ h)(e:σ.row=some ns):fg Γ h ns:=S.row.at' e
theorem St.ez {h:Heap}{v:aM}(S:St c Γ σ h)(e:σ.self=some v):bT c Γ h v:=S.self.at' e
theorem St.Ac {h:Heap}{d:Addr}{x:Value×Value×Value}(S:St c Γ σ h)(i:bx c h d x):Γ.row≠some d:=by
 intro q
 induction OI:σ.row with
 |none=>exact bR ((S.row.no OI).symm.trans q)
 |some ns=>
  obtain ⟨r,vs,n,w1,w2,w3,_⟩:=S.rowAt OI;induction Option.some.inj (w1.symm.trans q);obtain ⟨o,e,i⟩:=i;exact i.Ds (congrArg Obj.data (cV e w3))
theorem St.Ad {h:Heap}{d:Addr}{x:Value×Value×Value}(S:St c Γ σ h)(i:bx c h d x):d≠Γ.tab:=by
 rintro rfl
 obtain ⟨_,_,ps,w3,_⟩:=S.tab;obtain ⟨o,e,i⟩:=i;exact i.uN (congrArg Obj.data (cV e w3))
theorem bT.moves {h:Heap}{v:aM}{a d:Addr}(x:bT c Γ h v)(e:Γ.self=some (a,d)):Γ.moves d:=by
 obtain ⟨_,_,_,_,_,w1,_,w3,_⟩:=x;cases Option.some.inj (w1.symm.trans e);exact w3
theorem bT.at' {h:Heap}{v:aM}{a d:Addr}{es:List (Str×T)}{ik ii ia:Value}(x:bT c Γ h v)(e:Γ.self=some (a,d))(ea:v.attrs=some es)(i:bx c h d (ik,ii,ia)):uH c Γ h d es ia:=by
 obtain ⟨_,_,_,_,_,w1,_,_,w4,_,w6⟩:=x;cases Option.some.inj (w1.symm.trans e);cases w4.inj i;exact (congrArg (fun e=>bW c Γ h d e ia) ea).mp w6
theorem wJ.step {fr:List Addr}{h h':Heap}{t:T}{v:Value}(S:St c Γ σ h)(S':St c af aa h')(x:wJ c Γ σ h t v)(y:Step fr Γ σ h af aa h')(e:aa.self.map (·.ep)=σ.self.map (·.ep)):wJ c af aa h' t v:=by
 obtain ⟨es,sv,a,d,ik,ii,et,h1,h2,h3,h4,_⟩:=x;obtain ⟨Ga,e1,_⟩:=y.mono sv h1;obtain ⟨q1,q2⟩:=y.ba sv Ga h1 e1 (Option.some.inj ((congrArg (Option.map aM.ep) e1).symm.trans (e.trans (congrArg _ h1))));have h2:=(congrArg aM.attrs q1).trans h2;have b1:=y.le.self _ h3
 have i:bx c h' d (ik,ii,v):=by
  have e2:=q2 d ((S.ez h1).moves h3) (S.Ac h4) (S.Ad h4);obtain ⟨o,w,q⟩:=h4;exact ⟨o,e2.trans w,q⟩
 exact ⟨es,Ga,a,d,ik,ii,et,e1,h2,b1,i,(S'.ez e1).at' b1 h2 i⟩
theorem RF.step {fr:List Addr}{pre pre' h h':Heap}{r:T×Kd}{v:Value}(S:St c Γ σ h)(S':St c af aa h')(x:RF c pre Γ σ h r v)(y:Step fr Γ σ h af aa h')(e:r.2=.h→aa.self.map (·.ep)=σ.self.map (·.ep)):RF c pre' af aa h' r v:=by
 induction (show wQ c Γ σ h r v from x) with
 |h k x=>exact .h k (x.step S S' y (e k))
 |rep k x=>exact .rep k (Rep.mono y.le _ _ x)
theorem aC.kA {m:M (T×Kd)}{X:Sem Value}(h:aC prog c A I (RV c (ai A)) m X):aC prog c A I (RF c) m X:=by
 refine h.mono fun Γ σ s r aa af v s₁ P x ao q=>?_
 obtain ⟨t,k⟩:=r
 induction k with
 |val=>exact ⟨af,ao.st,x,.rep (fun q=>nomatch q) q⟩
 |h=>exact ⟨af,ao.st,x,.h rfl q⟩
 |own=>obtain ⟨G',S',x',r'⟩:=cT.LH q ao.st x;exact ⟨G',S',x',.rep (fun q=>nomatch q) r'⟩
 |bg=>obtain ⟨G',S',x',r'⟩:=cT.LH q ao.st x;exact ⟨G',S',x',.rep (fun q=>nomatch q) r'⟩
theorem aC.map {R:Heap→Gh→Sg→Heap→α→γ→Prop}{R':Heap→Gh→Sg→Heap→β→γ→Prop}{m:M α}{f:α→M β}{X:Sem γ}(h:aC prog c A I R m X)
  (k:∀{a v Γ σ pre h},St c Γ σ h→R pre Γ σ h a v→f a σ≠.stuck→∃b,f a σ=.ok b σ∧R' pre Γ σ h b v):aC prog c A I R' (m>>=f) X:=by
 intro Γ σ s P ne;refine wpAny_mono (h Γ σ s P (M.aT ne)) (fun v s₁ q=>?_) fun _ _ q=>q.cast fun m' σ' e=>M.cU e
 obtain ⟨a,σ',e,a0,y1,y2,y3,y4⟩:=q;obtain ⟨b,e',r⟩:=k y2 y4 fun q=>ne ((M.aZ e).trans q)
 exact ⟨b,σ',(M.aZ e).trans e',a0,y1,y2,y3,r⟩
theorem aC.solid {m:M (T×Kd)}{X:Sem Value}(h:aC prog c A I (RV c (ai A)) m X):aC prog c A I (RS c) (m>>=solid) X:=by
 refine h.kA.map fun {a v Γ σ pre h} _ y ne=>?_
 induction (show wQ c Γ σ h a v from y) with
 |h k=>exact absurd (if_pos k▸rfl:(if a.2=.h then Internal.stuck else pure a:M (T×Kd)) σ=.stuck) ne
 |rep k x=>exact ⟨a,congrFun (if_neg k) σ,k,x⟩
theorem aC.JP {m:M (T×Kd)}{X:Sem Value}(h:aC prog c A I (RV c (ai A)) m X):aC prog c A I (RL c) (do return (←m).1) X:=by
 refine h.map fun {a v Γ σ pre h} S y _=>⟨a.1,rfl,?_⟩
 obtain ⟨t,k⟩:=a
 induction k with
 |val=>exact Rep.look S y
 |h=>exact wJ.look y
 |own=>obtain ⟨as,q,f⟩:=y;exact q.look
 |bg=>obtain ⟨as,q,f⟩:=y;exact q.look
theorem Dt {R:Heap→Gh→Sg→Heap→α→γ→Prop}{R':Heap→Gh→Sg→Heap→β→δ→Prop}{ρ:Type}{m:M α}{m':α→M β}{f:α→β→M ρ}{X:Sem γ}{Y:Sem δ}{K:γ→δ→Shared→Prop}{E:Value→Shared→Prop}
  (P:Pre c A I Γ σ s) (ne:(do let a ←m;let b ←m' a;f a b) σ≠.stuck) (hX:aC prog c A I R m X) (hY:∀a,aC prog c A I R' (m' a) Y)
  (hE:∀v s',mK c A Γ σ s ((do let a ←m;let b ←m' a;f a b) σ) v s'→E v s')
  (k:∀a b va vb aa af s₁ au aj aJ,Pre c A I af aa s₁→Pre c A I aj au aJ→b0 s aJ→Step (ai A) Γ σ s.heap aj au aJ.heap→Step (ai A) af aa s₁.heap aj au aJ.heap→
   R s.heap af aa s₁.heap a va→m' a aa=.ok b au→R' s₁.heap aj au aJ.heap b vb→f a b au≠.stuck→((do let a ←m;let b ←m' a;f a b) σ=f a b au)→K va vb aJ):
  wpAny (model prog c.w) A X (fun va s₁=>wpAny (model prog c.w) A Y (K va) E s₁) E s:=
 wpAny_mono (seq (f:=fun a=>do let b ←m' a;f a b) (K:=fun va s₁=>wpAny (model prog c.w) A Y (K va) E s₁) P ne hX fun a aa af va s₁ _ y1 y3 ao r ne' e'=>
  wpAny_mono (seq (f:=f a) (K:=K va) ao ne' (hY a) fun b au aj vb aJ e2 z1 z3 aU r' ny G8=>
   k a b va vb aa af s₁ au aj aJ ao aU (y1.trans z1) (Step.trans P.st y3 z3) z3 r e2 r' ny (e'.trans G8)) (fun _ _ q=>q) fun v s' q=>hE v s' (e'▸mK.back P y1 y3 q)) (fun _ _ q=>q) hE
theorem fH {e:Nat}{v:aM}(h:σ.self=some v):(dJ e σ).self=some {v with ep:=e}:=congrArg (Option.map _) h
theorem js.map' {α β:Type}{n:Prop}{f:α→Prop}{f':β→Prop}{g:α→β}{o:Option α}(x:js n f o)(k:∀a,f a→f' (g a)):js n f' (o.map g):=by
 induction o with
 |none=>exact x
 |some a=>exact k a x
theorem St.dJ {e:Nat}{h:Heap}(S:St c Γ σ h):St c Γ (dJ e σ) h:=
 ⟨S.base,S.obj,S.gk,S.apart,S.apart2,S.row,S.self.map' fun _ q=>by obtain ⟨a,d,ii,ia,t,a1,a2,a3,a4,a5,a6⟩:=q;exact ⟨a,d,ii,ia,t,a1,a2,a3,a4,a5,a6⟩,S.tab⟩
theorem Step.dJ {fr:List Addr}{h h':Heap}{v v':aM}(hv:σ.self=some v)(MJ:aa.self=some v')(e0:v'.ep=0)(y:Step fr Γ (dJ 0 σ) h af aa h'):Step fr Γ σ h af (dJ v.ep aa) h':=by
 refine ⟨y.le,y.alive,y.keep,y.frames,y.old,y.eX,fun w w' e e' _=>?_,fun w e=>?_⟩
 ·induction Option.some.inj (hv.symm.trans e);induction Option.some.inj ((fH MJ).symm.trans e');obtain ⟨rfl,q2⟩:=y.ba _ v' (fH hv) MJ e0;exact ⟨rfl,q2⟩
 ·induction Option.some.inj (hv.symm.trans e);exact ⟨_,fH MJ,Nat.le_refl _⟩
def jJ {α β:Type}(R:Heap→Gh→Sg→Heap→α→β→Prop):Prop:=∀e h₀ G σ h a b,R h₀ G σ h a b→R h₀ G (dJ e σ) h a b
theorem qN:jJ (RF c):=by
 intro e h₀ G σ h a b x
 induction (show wQ c G σ h a b from x) with
 |h k x=>
  obtain ⟨es,sv,a,d,ik,ii,y1,y2,y3,y4,y5,y6⟩:=x;exact .h k ⟨es,_,a,d,ik,ii,y1,fH y2,y3,y4,y5,y6⟩
 |rep n x=>exact .rep n x
theorem Ae:jJ (RW c):=fun _ _ _ _ _ _ _ x=>x
inductive lr (k:Kd) (m:M α) (σ:Sg):Res α→Prop
 |pass (n:k≠.h):lr k m σ (m σ)
 |held (e:k=.h) (v:aM) (hs:σ.self=some v) (a:α) (σ':Sg) (em:m (Internal.dJ 0 σ)=.ok a σ') (v':aM) (zB:σ'.self=some v') (e0:v'.ep=0):lr k m σ (.ok a (Internal.dJ v.ep σ'))
 |no (e:k=.h):lr k m σ .stuck
theorem pI (k:Kd)(m:M α)(σ:Sg):lr k m σ (ba k m σ):=by
 by_cases hk:k=.h
 ·refine (congrArg (lr k m σ) (if_pos hk)).mpr ?_
  induction hs:σ.self with
  |none=>exact .no hk
  |some v=>
   dsimp only
   induction em:m (Internal.dJ 0 σ) with
   |ok a σ'=>
    dsimp only
    induction zB:σ'.self with
    |none=>exact .no hk
    |some v'=>
     dsimp only
     induction e0:v'.ep with
     |zero=>exact .held hk v hs a σ' em v' zB e0
     |succ=>exact .no hk
   |ct=>exact .no hk
   |stuck=>exact .no hk
 ·exact (congrArg (lr k m σ) (if_neg hk)).mpr (.pass hk)
theorem aC.ba {R:Heap→Gh→Sg→Heap→α→β→Prop}{k:Kd}{m:M α}{X:Sem β}(h:aC prog c A I R m X)(hR:jJ R):aC prog c A I R (ba k m) X:=by
 intro Γ σ s P ne;have w:=pI k m σ;generalize Internal.ba k m σ=o at w ne ⊢
 induction w with
 |pass=>exact h Γ σ s P ne
 |held _ v hs a σ' em v' zB e0=>
  refine wpAny_mono (h Γ (Internal.dJ 0 σ) s ⟨P.st.dJ,P.fr,P.inv⟩ (em▸fun q=>nomatch q)) (fun b s' q=>?_) fun e s' q=>?_
  ·obtain ⟨a,σ',e,a0,q1,q2,q3,q4⟩:=q;obtain ⟨rfl,rfl⟩:=G1 (em.symm.trans e);exact ⟨a,_,rfl,a0,q1,q2.dJ,q3.dJ hs zB e0,hR _ _ _ _ _ _ _ q4⟩
  ·induction q with|mk m' σ' e r=>?_
   exact LG (em.symm.trans e)
 |no=>exact absurd rfl ne
theorem iE {k:Kd}{m:M α}{a:α}{σ':Sg}(e:Internal.ba k m σ=.ok a σ')(hk:k=.h):σ'.self.map (·.ep)=σ.self.map (·.ep):=by
 have w:=pI k m σ;generalize Internal.ba k m σ=o at w e
 induction w with
 |pass n=>exact absurd hk n
 |held _ v hs a σ' em v' zB e0=>obtain ⟨rfl,rfl⟩:=G1 e;rw [fH zB,hs];rfl
 |no=>exact Mn e
end
section
variable {prog:Program}{c:Cx}{A:Around}{I:Inv (ai A)}{α β γ δ:Type}{Γ af:Gh}{σ aa:Sg}{s s₁:Shared}{env:PySem.Env}{L:Ev}{G:Calls}
theorem aC.JQ {R:Heap→Gh→Sg→Heap→α→γ→Prop}{R':Heap→Gh→Sg→Heap→β→δ→Prop}{m:M α}{f:α→M β}{X:Sem γ}{g:γ→δ}(h:aC prog c A I R m X)(P:Pre c A I Γ σ s)(ne:(m>>=f) σ≠.stuck)
  (k:∀{a v Γ σ pre h},St c Γ σ h→R pre Γ σ h a v→f a σ≠.stuck→∃b,f a σ=.ok b σ∧R' pre Γ σ h b (g v)):
  wpAny (model prog c.w) A X (fun v s₁=>gF c A Γ σ s R' ((m>>=f) σ) (g v) s₁) (mK c A Γ σ s ((m>>=f) σ)) s:=by
 refine wpAny_mono (h Γ σ s P (M.aT ne)) (fun v s₁ q=>?_) fun _ _ q=>q.cast fun m' σ' e=>M.cU e
 obtain ⟨a,σ',e,a0,y1,y2,y3,y4⟩:=q;obtain ⟨b,e',r⟩:=k y2 y4 fun q=>ne ((M.aZ e).trans q)
 exact ⟨b,σ',(M.aZ e).trans e',a0,y1,y2,y3,r⟩
noncomputable def Af:T→Bool
 |.dict _=>true
 |_=>false
theorem pD.nE {r:T×Kd}{v:Value}(x:pD c Γ r v)(n:Af r.1=false):Rep c Γ r.1 v:=by
 induction x with
 |h _ es _ e=>exact Jw ((congrArg Af e).symm.trans n)
 |rep _ x=>exact x
theorem RW.rep {pre h:Heap}{t:T}{k:Kd}{v:Value}(x:RW c pre Γ σ h (t,k) v)(n:Af t=false):Rep c Γ t v:=pD.nE (r:=(t,k)) x n
inductive JR:T×Kd→Prop
 |mk (i:Int) (k:Kd):JR (.int i,k)
inductive JS:T×Kd→Prop
 |mk (b:Bool) (k:Kd):JS (.bool b,k)
inductive Hl:T×Kd→Prop
 |mk (x:Str) (k:Kd):Hl (.str x,k)
theorem Du {a:T×Kd}{σ:Sg}(ne:Dg a σ≠.stuck):JR a:=by
 obtain ⟨t,k⟩:=a
 cases t with
 |int i=>exact .mk i k
 |_=>exact absurd rfl ne
theorem Ag {a:T×Kd}{σ:Sg}(ne:eI a σ≠.stuck):JS a:=by
 obtain ⟨t,k⟩:=a
 cases t with
 |bool i=>exact .mk i k
 |_=>exact absurd rfl ne
theorem qO {a:T×Kd}{σ:Sg}(ne:jF a σ≠.stuck):Hl a:=by
 obtain ⟨t,k⟩:=a
 cases t with
 |str i=>exact .mk i k
 |_=>exact absurd rfl ne
theorem aC.const {x:Const}{k:Nat}{pos:Pos}:aC prog c A I (RV c (ai A)) (ag G L (.Constant x k pos)) (eval (.Constant x k pos) env):=by
 intro Γ σ s P ne
 induction x with
 |none=>exact wpAny_Constant_none (dZ P Rep.me rfl)
 |bool=>exact wpAny_Constant_bool (dZ P Rep.bool rfl)
 |int=>exact wpAny_Constant_int (aH P Rep.int _ rfl)
 |str=>exact wpAny_Constant_str (aH P Rep.str _ rfl)
 |_=>exact absurd rfl ne
theorem x9 {op:Operator}{a b:T}{σ:Sg}(ne:ay (dy op a b) σ≠.stuck):Af a=false∧Af b=false:=by
 have w:=wL op a b;generalize dy op a b=o at w ne
 induction w with
 |no=>exact absurd rfl ne
 |_=>exact ⟨rfl,rfl⟩
theorem Gb {ρ ε:Type}{R:Heap→Gh→Sg→Heap→α→γ→Prop}{R':Heap→Gh→Sg→Heap→β→δ→Prop}{MK:Heap→Gh→Sg→Heap→ρ→ε→Prop}(hR:Back MK){m:M α}{m':α→M β}{f:α→β→M ρ}{X:Sem γ}{Y:Sem δ}{Z:γ→δ→Sem ε}
  (P:Pre c A I Γ σ s) (ne:(do let a ←m;let b ←m' a;f a b) σ≠.stuck) (hX:aC prog c A I R m X) (hY:∀a,aC prog c A I R' (m' a) Y)
  (k:∀a b va vb pre pre' af aa h₁ aj au aJ,St c af aa h₁→Pre c A I aj au aJ→Step (ai A) af aa h₁ aj au aJ.heap→R pre af aa h₁ a va→m' a aa=.ok b au→R' pre' aj au aJ.heap b vb→f a b au≠.stuck→Wp prog c A MK aj au aJ (f a b au) (Z va vb) aJ):
  wpAny (model prog c.w) A X (fun va s₁=>wpAny (model prog c.w) A Y (fun vb aJ=>Wp prog c A MK Γ σ s ((do let a ←m;let b ←m' a;f a b) σ) (Z va vb) aJ) (mK c A Γ σ s ((do let a ←m;let b ←m' a;f a b) σ)) s₁) (mK c A Γ σ s ((do let a ←m;let b ←m' a;f a b) σ)) s:=
 Dt P ne hX hY (fun _ _ q=>q) fun a b va vb aa af s₁ au aj aJ ao aU y1 y2 y3 ra eb rb ne2 e2=>cF hR P y1 y2 (e2▸k a b va vb _ _ af aa _ aj au aJ ao.st aU y3 ra eb rb ne2)
theorem aC.bin {l r:Expr}{op:Operator}{pos:Pos}(hl:aC prog c A I (RV c (ai A)) (ag G L l) (eval l env))(hr:aC prog c A I (RV c (ai A)) (ag G L r) (eval r env)):
  aC prog c A I (RV c (ai A)) (ag G L (.BinOp l op r pos)) (eval (.BinOp l op r pos) env):=
 fun Γ σ s P ne=>wpAny_BinOp (Gb (f:=fun (a b:T×Kd)=>ay (dy op a.1 b.1)) (Z:=binaryOp op) bu P ne hl.weak (fun _=>hr.weak)
  fun a b va vb pre _ af aa h₁ aj au aJ _ aU y ra _ rb ne2=>
   have n:=x9 ne2
   Hd aU (pD.nE (ra.step y (pre':=pre)) n.1) (pD.nE rb n.2) ne2)
theorem aC.neg {x:Expr}{pos:Pos}(hx:aC prog c A I (RV c (ai A)) (ag G L x) (eval x env)):aC prog c A I (RV c (ai A)) (ag G L (.UnaryOp .USub x pos)) (eval (.UnaryOp .USub x pos) env):=
 fun Γ σ s P ne=>wpAny_UnaryOp (G9 (f:=Dg) bu P ne hx.weak fun a aa af v s₁ pre ao r ne1=>by
  induction Du ne1;induction (r.rep rfl).int_inv;exact PySem.P.neg_int (aH ao Rep.int _ rfl))
theorem Wp.of {R:Heap→Gh→Sg→Heap→α→β→Prop}{res kh:Res α}{X:Sem β}(e:res=kh)(h:Wp prog c A R Γ σ s kh X s₁):Wp prog c A R Γ σ s res X s₁:=e▸h
theorem gF.of {R:Heap→Gh→Sg→Heap→α→β→Prop}{res kh:Res α}{b:β}(e:res=kh)(h:gF c A Γ σ s R kh b s₁):gF c A Γ σ s R res b s₁:=e▸h
def RB (_:Heap)(_:Gh)(_:Sg)(_:Heap)(b b':Bool):Prop:=b'=b
theorem Ah:jJ RB:=fun _ _ _ _ _ _ _ x=>x
theorem fW:Back RB:=fun _ _ _ _ _ _ _ _ x=>x
theorem Ai {KT KF:Shared→Prop}{m:M Bool}{f g:M α}{X:Sem Bool}(P:Pre c A I Γ σ s)(ne:(m>>=fun b=>if b then f else g) σ≠.stuck)(h:aC prog c A I RB m X)
  (kt:∀af aa s₁,b0 s s₁→Step (ai A) Γ σ s.heap af aa s₁.heap→Pre c A I af aa s₁→f aa≠.stuck→(m>>=fun b=>if b then f else g) σ=f aa→KT s₁)
  (kf:∀af aa s₁,b0 s s₁→Step (ai A) Γ σ s.heap af aa s₁.heap→Pre c A I af aa s₁→g aa≠.stuck→(m>>=fun b=>if b then f else g) σ=g aa→KF s₁):
  wpAny (model prog c.w) A X (fun b s₁=>if b then KT s₁ else KF s₁) (mK c A Γ σ s ((m>>=fun b=>if b then f else g) σ)) s:=
 seq (f:=fun b=>if b then f else g) P ne h fun a aa af v s₁ _ y1 y2 ao r ne1 e1=>by
  cases r
  induction a with
  |true=>exact kt af aa s₁ y1 y2 ao ne1 e1
  |false=>exact kf af aa s₁ y1 y2 ao ne1 e1
theorem aC.ite {t b o:Expr}{pos:Pos}(ht:aC prog c A I RB (bO G L t (ag G L t)) (isTrue t env (eval t env)))(hb:aC prog c A I (RV c (ai A)) (ag G L b) (eval b env))(ho:aC prog c A I (RV c (ai A)) (ag G L o) (eval o env)):
  aC prog c A I (RV c (ai A)) (ag G L (.IfExp t b o pos)) (eval (.IfExp t b o pos) env):=
 fun Γ σ s P ne=>wpAny_IfExp (Ai (f:=ag G L b) (g:=ag G L o) P ne ht (fun _ _ _ y1 y2 ao ne1 e1=>Wp.of e1 (cF bu P y1 y2 (hb _ _ _ ao ne1)))
  fun _ _ _ y1 y2 ao ne1 e1=>Wp.of e1 (cF bu P y1 y2 (ho _ _ _ ao ne1)))
theorem aC.Aj {x:Expr}{pos:Pos}{m:M (T×Kd)}{X:Sem Value}(h:aC prog c A I RB (bO G L x (ag G L x)) (isTrue x env (eval x env))):aC prog c A I RB (bO G L (.UnaryOp .Not x pos) m) (isTrue (.UnaryOp .Not x pos) env X):=
 fun Γ σ s P ne=>wpAny_isTrue_Not (h.JQ (f:=fun a=>pure !a) P ne fun {a _ _ _ _ _} _ r _=>⟨!a,rfl,congrArg _ r⟩)
theorem aC.Ak (es:List Expr)(h:∀e∈es,aC prog c A I RB (bO G L e (ag G L e)) (isTrue e env (eval e env))):aC prog c A I RB (evalAnd G L es) (allTrue .And es env):=by
 induction es with
 |nil=>exact fun Γ σ s P ne=>wpAny_allTrue_And_nil (km P rfl rfl)
 |cons e es ih=>
  have ih:=ih fun e he=>h e (.tail _ he)
  have h:=h e (.head _);exact fun Γ σ s P ne=>wpAny_allTrue_And_cons (Ai (f:=evalAnd G L es) (g:=pure false) P ne h (fun _ _ _ y1 y2 ao ne1 e1=>Wp.of e1 (cF fW P y1 y2 (ih _ _ _ ao ne1)))
   fun _ _ _ y1 y2 ao _ e1=>gF.of e1 (gF.back fW P y1 y2 (km ao rfl rfl)))
theorem aC.Dv (es:List Expr)(h:∀e∈es,aC prog c A I RB (bO G L e (ag G L e)) (isTrue e env (eval e env))):aC prog c A I RB (evalOr G L es) (allTrue .Or es env):=by
 induction es with
 |nil=>exact fun Γ σ s P ne=>wpAny_allTrue_Or_nil (km P rfl rfl)
 |cons e es ih=>
  have ih:=ih fun e he=>h e (.tail _ he)
  have h:=h e (.head _);exact fun Γ σ s P ne=>wpAny_allTrue_Or_cons (Ai (f:=pure true) (g:=evalOr G L es) P ne h (fun _ _ _ y1 y2 ao _ e1=>gF.of e1 (gF.back fW P y1 y2 (km ao rfl rfl)))
   fun _ _ _ y1 y2 ao ne1 e1=>Wp.of e1 (cF fW P y1 y2 (ih _ _ _ ao ne1)))
theorem aC.Al {es:List Expr}{pos:Pos}{m:M (T×Kd)}{X:Sem Value}(h:∀e∈es,aC prog c A I RB (bO G L e (ag G L e)) (isTrue e env (eval e env))):
  aC prog c A I RB (bO G L (.BoolOp .And es pos) m) (isTrue (.BoolOp .And es pos) env X):=fun Γ σ s P ne=>wpAny_isTrue_BoolOp (aC.Ak es h Γ σ s P ne)
theorem aC.Dw {es:List Expr}{pos:Pos}{m:M (T×Kd)}{X:Sem Value}(h:∀e∈es,aC prog c A I RB (bO G L e (ag G L e)) (isTrue e env (eval e env))):
  aC prog c A I RB (bO G L (.BoolOp .Or es pos) m) (isTrue (.BoolOp .Or es pos) env X):=fun Γ σ s P ne=>wpAny_isTrue_BoolOp (aC.Dv es h Γ σ s P ne)
noncomputable def lu:Expr→Bool
 |.Name ..=>true
 |.Call ..=>true
 |.Constant ..=>true
 |.Attribute ..=>true
 |.Subscript ..=>true
 |_=>false
structure Hm (e:Expr):Prop where
 m:∀(G:Calls) (L:Ev) (m:M (T×Kd)),bO G L e m=(do eI (←m))
 x:∀(env:PySem.Env) (X:Sem Value),isTrue e env X=(do let v ←X;standAt e.pos;holding [v] (truthy v))
theorem plainT {e:Expr}(h:lu e=true):Hm e:=by
 cases e with
 |Name=>exact ⟨fun _ _ _=>rfl,fun _ _=>rfl⟩
 |Call=>exact ⟨fun _ _ _=>rfl,fun _ _=>rfl⟩
 |Constant=>exact ⟨fun _ _ _=>rfl,fun _ _=>rfl⟩
 |Attribute=>exact ⟨fun _ _ _=>rfl,fun _ _=>rfl⟩
 |Subscript=>exact ⟨fun _ _ _=>rfl,fun _ _=>rfl⟩
 |_=>exact d9 h
theorem aC.uO {e:Expr}{m:M (T×Kd)}{X:Sem Value}(hp:lu e=true)(h:aC prog c A I (RV c (ai A)) m X):aC prog c A I RB (bO G L e m) (isTrue e env X):=by
 rw [(plainT hp).m,(plainT hp).x]
 exact fun Γ σ s P ne=>wpAny_bind (G9 (f:=eI) fW P ne h.weak fun a aa af v s₁ pre ao r ne1=>by
  induction Ag ne1;cases (r.rep rfl).bool_inv;exact wpAny_bind (wpAny_standAt (wpAny_holding (wpAny_truthy_bool (km ao rfl rfl)))))
end
section
variable {prog:Program}{c:Cx}{A:Around}{I:Inv (ai A)}{Γ af:Gh}{σ aa:Sg}{s s₁:Shared}{env:PySem.Env}{L:Ev}{G:Calls}{E:Value→Shared→Prop}
theorem aC.right {op:CmpOp}{r:Expr}(hr:aC prog c A I (RV c (ai A)) (ag G L r) (eval r env))
  (hP:aC prog c A I (RL c) (gC L r (ag G L r)) (eval r env)):aC prog c A I (RC op c) (ig L op r (ag G L r)) (eval r env):=by
 by_cases h:op=.In
 ·subst h;exact hP
 ·refine (congrArg (fun m=>aC prog c A I (RC op c) m (eval r env)) (if_neg h)).mpr ?_;rw [←M.assoc];refine hr.solid.map fun {a v Γ σ pre h'} _ y _=>⟨a.1,rfl,?_⟩
  induction op with
  |In=>exact absurd rfl h
  |_=>exact y.r
theorem sq {op:CmpOp}{l r:Expr}{β:Type}{K:Value→Value→Shared→Prop}{f:T→M β}(P:Pre c A I Γ σ s)(hu:A.units+50 < cLine)(hl:aC prog c A I (RV c (ai A)) (ag G L l) (eval l env))
  (hr:aC prog c A I (RC op c) (ig L op r (ag G L r)) (eval r env)) (ne:(do let a ←ag G L l;let b ←ig L op r (ag G L r);f (←fi op a b)) σ≠.stuck)
  (k:∀va vb r' au aj aJ,b0 s aJ→Step (ai A) Γ σ s.heap aj au aJ.heap→Pre c A I aj au aJ→((do let a ←ag G L l;let b ←ig L op r (ag G L r);f (←fi op a b)) σ=f (.bool r') au)→gn prog c A aJ op va vb r'→K va vb aJ):
  wpAny (model prog c.w) A (eval l env) (fun va s₁=>wpAny (model prog c.w) A (eval r env) (K va) (mK c A Γ σ s ((do let a ←ag G L l;let b ←ig L op r (ag G L r);f (←fi op a b)) σ)) s₁)
   (mK c A Γ σ s ((do let a ←ag G L l;let b ←ig L op r (ag G L r);f (←fi op a b)) σ)) s:=
 Dt (f:=fun a b=>do f (←fi op a b)) P ne hl.weak (fun _=>hr) (fun _ _ q=>q) fun a b va vb aa af s₁ au aj aJ _ aU y1 y2 y3 ra _ rb ne2 e2=>by
  obtain ⟨r',e3,h⟩:=Hk (prog:=prog) aU hu (ra.step y3 (pre':=s.heap)) rb (M.aT ne2);exact k va vb r' au aj aJ y1 y2 aU (e2.trans (M.aZ (f:=f) e3)) h
theorem aC.compare {op:CmpOp}{l r:Expr}{pos:Pos}(hu:A.units+50 < cLine)(hm:behindInMarks op r=false)(hl:aC prog c A I (RV c (ai A)) (ag G L l) (eval l env))
  (hr:aC prog c A I (RC op c) (ig L op r (ag G L r)) (eval r env)):aC prog c A I (RV c (ai A)) (ag G L (.Compare l [op] [r] pos)) (eval (.Compare l [op] [r] pos) env):=
 fun Γ σ s P ne=>wpAny_Compare1 (sq (f:=val) P hu hl hr ne fun va vb r' au aj aJ y1 y2 aU e h=>h _ _ fun k=>gF.back bu P y1 y2 (aH aU Rep.bool k e)) hm
theorem aC.Am {op:CmpOp}{l r:Expr}{pos:Pos}{X:Sem Value}(hu:A.units+50 < cLine)(hm:behindInMarks op r=false)(hl:aC prog c A I (RV c (ai A)) (ag G L l) (eval l env))
  (hr:aC prog c A I (RC op c) (ig L op r (ag G L r)) (eval r env)):aC prog c A I RB (bO G L (.Compare l [op] [r] pos) (ag G L (.Compare l [op] [r] pos))) (PySem.isTrue (.Compare l [op] [r] pos) env X):=by
 have e0:bO G L (.Compare l [op] [r] pos) (ag G L (.Compare l [op] [r] pos))=(do let a ←ag G L l;let b ←ig L op r (ag G L r);(fun t=>do eI (←val t)) (←fi op a b)):=by
  show ((do let a ←ag G L l;let b ←ig L op r (ag G L r);val (←fi op a b))>>=eI)=_;simp only [M.assoc]
 rw [e0];exact fun Γ σ s P ne=>wpAny_isTrue_Compare1 (sq (f:=fun t=>do eI (←val t)) P hu hl hr ne fun va vb r' au aj aJ y1 y2 aU e h=>
  h _ _ fun k=>wpAny_truthy_bool (gF.back fW P y1 y2 ⟨r',au,e,aj,⟨aJ.heap,k⟩,aU.st,Step.refl ..,rfl⟩)) hm
noncomputable def kB:Expr→Bool
 |.Slice ..=>false
 |_=>true
theorem cQ {e:Expr}{o i:Value}(h:kB e=true):subscripted e false o i=operate [o,i] (getItem o i):=by
 cases e with
 |Slice=>exact d9 h
 |_=>rfl
theorem gG {value slice:Expr}{o i:Value}{T id:String}{ops:List Value}{Q:Value→Shared→Prop}(hT:s.TypeIs o T)(hl:typeLookup (.type T) "__getitem__"=pure (some (.builtin id)))
  (h:wpAny (model prog c.w) A (getItem o i) Q E s) (hs:subscripted slice false o i=operate ops (getItem o i)):wpAny (model prog c.w) A (subscriptTail value slice o i) Q E s:=by
 unfold subscriptTail;refine wpAny_bind ?_;rw [getitemInPython_of_ne hT.not_modules];refine wpAny_bind (wpAny_specialOf hT hl ?_)
 have fin:wpAny (model prog c.w) A (subscripted slice false o i) (fun r jK=>wpAny (model prog c.w) A (letTemporaryGo value o r>>=fun _=>pure r) Q E jK) E s:=by
  rw [hs];exact wpAny_operating (wpAny_mono h (fun r jK Hn=>wpAny_bind (wpAny_letTemporaryGo (wpAny_pure Hn))) fun _ _ x=>x)
 first
  |exact wpAny_pure (wpAny_bind fin)
  |exact wpAny_bind (wpAny_pure (wpAny_bind fin))
  |exact wpAny_bind fin
theorem sr {h:Heap}{a:Addr}{vs:List Value}{n:Nat}(e:h.get? a=some (k8 vs n)):IsTup h a vs.toArray:=⟨_,e,rfl,n,rfl⟩
theorem mj {k:Int}{n:Nat}(h0:0≤k)(h:k.toNat < n):seqIndex? k n=some k.toNat:=by
 have h1:¬k < 0:=Int.not_lt.mpr h0;have h2:k < (n:Int):=Int.toNat_of_nonneg h0▸Int.ofNat_lt.mpr h;simp [seqIndex?,h1,h0,h2]
theorem lx {k:Int}{n:Nat}(h0:0≤k)(h:k.toNat < n)(z:n≤sizeLine):-2 ^ 63≤k∧k < 2 ^ 63:=by
 exact ⟨Int.le_trans (by decide) h0,Int.lt_trans (Int.toNat_of_nonneg h0▸Int.ofNat_lt.mpr (Nat.lt_of_lt_of_le h z)) (by decide)⟩
inductive Dx (σ:Sg):T→T→Res (T×Kd)→Prop
 |list (ts:List T) (k:Int) (h0:0≤k) (t:T) (ht:ts[k.toNat]?=some t):Dx σ (.list ts) (.int k) (.ok (t,.val) σ)
 |tup (ts:List T) (k:Int) (h0:0≤k) (t:T) (ht:ts[k.toNat]?=some t):Dx σ (.tup ts) (.int k) (.ok (t,.val) σ)
 |dict (es:List (Str×T)) (k:Str) (t:T) (ht:es.lookup k=some t):Dx σ (.dict es) (.str k) (.ok (t,.val) σ)
 |str (x:Str) (k:Int) (h0:0≤k∧k≤aq) (t:Nat) (ht:x.cps[k.toNat]?=some t):Dx σ (.str x) (.int k) (.ok (.str ⟨#[t]⟩,.val) σ)
 |no (v i:T):Dx σ v i .stuck
theorem uP {σ:Sg}{p:Prop}[Decidable p]{v i:T}{m:Res (T×Kd)}(h:p→Dx σ v i m):Dx σ v i (if p then m else .stuck):=by
 by_cases hp:p
 ·rw [if_pos hp];exact h hp
 ·rw [if_neg hp];exact .no _ _
theorem Ho (v i:T)(σ:Sg):Dx σ v i (ie v i σ):=by
 cases v with
 |list ts=>cases i with
  |int k=>refine uP fun h0=>?_;induction ht:ts[k.toNat]? with|none=>exact .no ..|some t=>exact .list ts k h0 t ht
  |_=>exact .no ..
 |tup ts=>cases i with
  |int k=>refine uP fun h0=>?_;induction ht:ts[k.toNat]? with|none=>exact .no ..|some t=>exact .tup ts k h0 t ht
  |_=>exact .no ..
 |dict es=>cases i with
  |str k=>show Dx σ _ _ (match es.lookup k with|some t=>.ok (t,.val) σ|none=>.stuck);induction ht:es.lookup k with|none=>exact .no ..|some t=>exact .dict es k t ht
  |_=>exact .no ..
 |str x=>cases i with
  |int k=>refine uP fun h0=>?_;induction ht:x.cps[k.toNat]? with|none=>exact .no ..|some t=>exact .str x k h0 t ht
  |_=>exact .no ..
 |_=>exact .no ..
theorem Dy {v i:T}{vv vi:Value}{value slice:Expr}(P:Pre c A I Γ σ s)(rv:Look c Γ s.heap v vv)(ri:Af i=false→Rep c Γ i vi)(hs:kB slice=true)(ne:ie v i σ≠.stuck):
  Wp prog c A (RV c (ai A)) Γ σ s (ie v i σ) (subscriptTail value slice vv vi) s:=by
 have w:=Ho v i σ;generalize ie v i σ=o at w ne ⊢
 induction w with
 |list ts k h0 t ht=>
  obtain ⟨a,vs,n,h1,z,h2⟩:=(show eK s.heap.get? aG (az c Γ ts) vv from rv);induction (ri rfl).int_inv;obtain ⟨w,hw,Hp⟩:=h2.get ht;have hl:=aD h1;have wM:k.toNat < vs.length:=(List.getElem?_eq_some_iff.mp hw).1;exact gG hl.typeIs slot_list_getitem.lookup (wpAny_getItem_list hl h0 (lx h0 wM z).2 ((List.getElem?_toArray ..).trans hw) (dZ P Hp rfl)) (cQ hs)
 |tup ts k h0 t ht=>
  obtain ⟨a,vs,n,h1,z,h2⟩:=Rep.cu (show Rep c Γ (.tup ts) vv from rv);induction (ri rfl).int_inv;obtain ⟨w,hw,Hp⟩:=h2.get ht;have hl:=sr (P.st.obj _ _ h1);have wM:k.toNat < vs.length:=(List.getElem?_eq_some_iff.mp hw).1;exact gG hl.typeIs slot_tuple_getitem.lookup (PyProof.Rows.getItem_tuple hl (lx h0 wM z).1 (lx h0 wM z).2 (mj h0 wM) ((List.getElem?_toArray ..).trans hw) (dZ P Hp rfl)) (cQ hs)
 |dict es k t ht=>
  induction (show gE s.heap.get? (es.map (·.1)) (aW c Γ es) vv from rv) with|mk a ds n nm h1 z _ h2=>?_
  induction (ri rfl).str_inv;have q:=ht▸jI h2 k
  cases q with
  |hit _ w hw Hp=>exact gG ⟨_,h1,rfl⟩ slot_dict_getitem.lookup (wpAny_getItem_of (strKind_is prog c.w k _) (mapOf (prog:=prog) h1 h2) hw (aH P Hp _ rfl)) (cQ hs)
 |str x k h0 t ht=>
  induction Rep.str_inv (show Rep c Γ (.str x) vv from rv);induction (ri rfl).int_inv;have wM:k.toNat < x.cps.size:=(Array.getElem?_eq_some_iff.mp ht).1;refine gG (typeIs_str s x _) slot_str_getitem.lookup (PyProof.Rows.getItem_str ?_ (c:=t) ?_ (aH P Rep.str _ rfl)) (cQ hs)
  ·exact Bool.or_eq_false_iff.mpr ⟨decide_eq_false (Int.not_lt.mpr (Int.le_trans (by decide) h0.1)),decide_eq_false (Int.not_le.mpr (Int.lt_of_le_of_lt h0.2 (by decide)))⟩
  ·rw [show seqIndex? k x.length=some k.toNat from mj h0.1 wM];exact ht
 |no=>exact absurd rfl ne
end
end Mine.Internal
end
section
namespace Mine.Internal
open PySem PySem.W PyProof.Rows PySem.SeqAt PySem.Builtin PySem.Builtin.Str
section
variable {prog:Program}{c:Cx}{A:Around}{I:Inv (ai A)}{Γ af:Gh}{σ aa:Sg}{s s₁:Shared}{env:PySem.Env}{L:Ev}{G:Calls}{E:Value→Shared→Prop}
theorem RF.look {pre h:Heap}{r:T×Kd}{v:Value}(S:St c Γ σ h)(x:RF c pre Γ σ h r v):Look c Γ h r.1 v:=by
 induction (show wQ c Γ σ h r v from x) with
 |h _ x=>exact x.look
 |rep _ x=>exact Rep.look S x
theorem pD.JT {r:T×Kd}{v:Value}(x:pD c Γ r v):Af r.1=false→Rep c Γ r.1 v:=x.nE
theorem aC.sub {v i:Expr}{pos:Pos}(hs:kB i=true)(hv:aC prog c A I (RV c (ai A)) (ag G L v) (eval v env))(hi:aC prog c A I (RV c (ai A)) (ag G L i) (eval i env)):
  aC prog c A I (RV c (ai A)) (ag G L (.Subscript v i pos)) (eval (.Subscript v i pos) env):=by
 have e0:ag G L (.Subscript v i pos)=(do let t ←ag G L v;let k ←Internal.ba t.2 (ag G L i);ie t.1 k.1):=by
  cases i with
  |Slice=>exact d9 hs
  |_=>rfl
 rw [e0];exact fun Γ σ s P ne=>Subscript_ (Gb (f:=fun (t k:T×Kd)=>ie t.1 k.1) (Z:=fun o x=>subscriptTail v i o x) bu P ne hv.kA (fun t=>hi.weak.ba Ae)
  fun a b va vb pre pre' af aa h₁ aj au aJ uQ aU y ra eb rb ne2=>Dy aU (RF.look aU.st (ra.step uQ aU.st y (iE eb) (pre':=pre))) (pD.JT rb) hs ne2)
theorem az.take:∀{ts:List T} {vs:List Value} (_:az c Γ ts vs) (n:Nat),az c Γ (ts.take n) (vs.take n)
 |[],_,r,n=>by cases (show _=[] from r);rw [List.take_nil,List.take_nil];exact az.nil
 |t::ts,_,r,n=>by
  induction r with|mk v w h2 h3=>?_
  induction n with
  |zero=>exact az.nil
  |succ n=>exact az.cons h2 (az.take h3 n)
theorem az.drop:∀{ts:List T} {vs:List Value} (_:az c Γ ts vs) (n:Nat),az c Γ (ts.drop n) (vs.drop n)
 |[],_,r,n=>by cases (show _=[] from r);rw [List.drop_nil,List.drop_nil];exact az.nil
 |t::ts,_,r,n=>by
  induction r with|mk v w h2 h3=>?_
  induction n with
  |zero=>exact az.cons h2 h3
  |succ n=>exact az.drop h3 n
inductive An:Option Nat→Value→Prop
 |none:An .none .none
 |some (n:Nat) (t:Tok):An (.some n) (.int n t)
def RI (_:Cx)(_:Heap)(_:Gh)(_:Sg)(_:Heap)(n:Option Nat)(v:Value):Prop:=An n v
inductive ML:T→Option (Option Nat)→Prop
 |mk (k:Nat):ML (.int k) (some (some k))
 |no (t:T):ML t none
theorem Hq (t:T):ML t (m9 (some t)):=by
 cases t with
 |int k=>
  induction k with
  |ofNat k=>exact .mk k
  |negSucc k=>exact .no _
 |_=>exact .no _
theorem aC.bound {e:Option Expr}(h:∀x,e=some x→aC prog c A I (RV c (ai A)) (ag G L x) (eval x env)):aC prog c A I (RI c) (jz G L e) (evalPart e env):=by
 induction e with
 |none=>exact fun Γ σ s P ne=>wpAny_evalPart_none (km P rfl An.none)
 |some x=>
  have h:=h x rfl
  exact fun Γ σ s P ne=>wpAny_evalPart_some (h.weak.JQ (R':=RI c) (f:=fun (t:T×Kd)=>ay (m9 (some t.1))) (g:=id) P ne fun {a v Γ σ pre h} _ r ne1=>by
   obtain ⟨t,k⟩:=a;have w:=Hq t;generalize m9 (some t)=o at w ne1 ⊢
   induction w with
   |mk k=>induction (r.rep rfl).int_inv;exact ⟨_,rfl,An.some _ _⟩
   |no=>exact absurd rfl ne1)
structure Pushed (c:Cx) (A:Around) (I:Inv (ai A)) (Γ:Gh) (σ:Sg) (s s':Shared):Prop where
 P:Pre c A I Γ σ s'
 x:Step (ai A) Γ σ s.heap Γ σ s'.heap
 y:b0 s s'
theorem Pre.push (P:Pre c A I Γ σ s)(o:Obj)(k:Nat):Pushed c A I Γ σ s {s with heap:=s.heap.push o,toks:=k}:=
 have x:Step (ai A) Γ σ s.heap Γ σ (s.heap.push o):=Step.keeps aL P.st
 ⟨P.next (s₁:={s with heap:=s.heap.push o,toks:=k}) (P.st.keeps aL) x,x,⟨_,k⟩⟩
theorem pa (vs:List Value)(lo hi:Option Nat):slicePick vs.toArray (lo.map Int.ofNat) (hi.map Int.ofNat) none=((vs.take (hi.getD vs.length)).drop (lo.getD 0)).toArray:=by
 rw [slicePick_plain];congr 1
 have e1:((lo.map Int.ofNat).elim 0 (clipAt vs.toArray.size))=min (lo.getD 0) vs.length:=by
  induction lo with
  |none=>simp
  |some a=>exact clipAt_nat _ a
 have e2:((hi.map Int.ofNat).elim vs.toArray.size (clipAt vs.toArray.size))=min (hi.getD vs.length) vs.length:=by
  induction hi with
  |none=>simp
  |some a=>exact clipAt_nat _ a
 rw [e1,e2,List.drop_take];by_cases h:lo.getD 0≤vs.length
 ·rw [Nat.min_eq_left h];apply List.ext_getElem?;intro i;simp only [List.getElem?_take,List.getElem?_drop];split<;>split<;>first|rfl|omega|skip
  rw [List.getElem?_eq_none];omega
 ·have h':vs.length≤lo.getD 0:=by omega
  rw [Nat.min_eq_right h',List.drop_eq_nil_of_le (Nat.le_refl _),List.drop_eq_nil_of_le h'];simp
theorem An.part {n:Option Nat}{v:Value}(r:An n v):IsPart v (n.map Int.ofNat):=by
 induction r with
 |none=>exact .none
 |some n t=>exact .int _ _
inductive OJ (n:Option Nat):Value→Prop
 |mk (l:Option (Int×Tok)) (e:l.map (·.1)=n.map Int.ofNat):OJ n (partValue l)
theorem An.val {n:Option Nat}{v:Value}(r:An n v):OJ n v:=by
 induction r with
 |none=>exact .mk Option.none rfl
 |some n t=>exact .mk (Option.some ((n:Int),t)) rfl
inductive LK (lo hi:Option Nat):T→Option (T×Kd)→Prop
 |list (ts:List T):LK lo hi (.list ts) (some (.list ((ts.take (hi.getD ts.length)).drop (lo.getD 0)),.own))
 |str (w:Str) (h1:lo.getD 0≤hi.getD w.length) (h2:hi.getD w.length≤w.length) (h3:w.length≤aq):LK lo hi (.str w) (some (.str ⟨((w.cps.toList.drop (lo.getD 0)).take (hi.getD w.length - lo.getD 0)).toArray⟩,.val))
 |no (t:T):LK lo hi t none
theorem Ao (t:T)(lo hi:Option Nat):LK lo hi t (fD t lo hi):=by
 cases t with
 |list ts=>exact .list ts
 |str w=>
  unfold fD;dsimp only;split
  ·rename_i h;exact .str w h.1 h.2.1 h.2.2
  ·exact .no _
 |_=>exact .no _
theorem ya (w:Str)(a b:Nat)(h:w.length≤aq):((w.cps.toList.drop a).take b).toArray.size≤sizeLine:=by
 rw [List.size_toArray,List.length_take,List.length_drop];exact dp (Nat.le_trans (Nat.min_le_right ..) (Nat.le_trans (Nat.sub_le ..) h))
theorem su (w:Str){a b:Nat}(h1:a≤b)(h2:b≤w.length)(q:b - a=w.length):(⟨((w.cps.toList.drop a).take (b - a)).toArray⟩:Str)=w:=by
 have h0:a=0:=Nat.eq_zero_of_not_pos fun p=>Nat.lt_irrefl _ (Nat.lt_of_lt_of_le (q▸Nat.sub_lt_self p h1) h2)
 have h1:w.length=w.cps.toList.length:=rfl;rw [q,h0,List.drop_zero,List.take_of_length_le (Nat.le_of_eq h1.symm)]
theorem yb (w:Str){lo hi:Option Nat}{l u:Option (Int×Tok)}(e1:l.map (·.1)=lo.map Int.ofNat)(e2:u.map (·.1)=hi.map Int.ofNat):
  slicePicked w l u none=strSliceIndices (some ((lo.getD 0:Nat):Int)) (some ((hi.getD w.length:Nat):Int)) 1 w.length:=by
 unfold slicePicked;rw [e1,e2];induction lo<;>induction hi<;>simp [StrLaws.sliceIdx_none_lo,StrLaws.sliceIdx_none_hi]
theorem Ap {v:T}{lo hi:Option Nat}{vv vl vu:Value}{value:Expr}(P:Pre c A I Γ σ s)(rv:Look c Γ s.heap v vv)(rl:An lo vl)(ru:An hi vu){l u:Option Expr}{p:Pos}(ne:ay (fD v lo hi) σ≠.stuck):
  Wp prog c A (RV c (ai A)) Γ σ s (ay (fD v lo hi) σ) (subscriptTail value (.Slice l u none p) vv (.ref s.heap.objs.size)) {s with heap:=s.heap.push {cls:=.type "slice",data:=.fields #[vl,vu,.none]}}:=by
 have w:=Ao v lo hi;generalize fD v lo hi=o at w ne ⊢;have N:=P.push {cls:=.type "slice",data:=.fields #[vl,vu,.none]} s.toks
 induction w with
 |list ts=>
  induction (show eK s.heap.get? aG (az c Γ ts) vv from rv) with|mk a vs n h1 z h2=>?_
  have hl:=aD (aL (o:={cls:=.type "slice",data:=.fields #[vl,vu,.none]}) _ _ h1);refine gG hl.typeIs slot_list_getitem.lookup (wpAny_getItem_list_slice hl (Heap.IsSliceOf.new _ _ _ _) rl.part ru.part .none (fun q=>nomatch q) ?_ z) (ops:=[.ref s.heap.objs.size,.ref a]) rfl;rw [pa,←h2.length];exact gF.back bu P N.y N.x (kq N.P ((h2.take _).drop _) (Nat.le_trans (List.length_drop▸Nat.sub_le ..) (Nat.le_trans (List.length_take▸Nat.min_le_right ..) z)) 0 s.toks rfl)
 |str w h1 h2 h3=>
  induction Rep.str_inv (show Rep c Γ (.str w) vv from rv) with
  |mk t=>
  induction rl.val with|mk l' e1=>?_
  induction ru.val with|mk u' e2=>?_
  refine gG (typeIs_str _ w t) slot_str_getitem.lookup (wpAny_getItem_str_slice (st:=none) (l:=l') (u:=u') ⟨_,Heap.get?_push_size _ rfl,rfl,rfl⟩ (by decide) ?_) (ops:=[.ref s.heap.objs.size,.str w t]) rfl;unfold sliceMade;rw [yb w e1 e2,StrLaws.sliced_plain w h1 h2];split
  ·rename_i q;simp only [Option.map_none,Option.getD_none,beq_self_eq_true,Bool.true_and,beq_iff_eq] at q;rw [StrLaws.strSliceIndices_plain h1 h2,List.length_map,List.length_range] at q;rw [su w h1 h2 q];exact gF.back bu P N.y N.x (dZ N.P Rep.str rfl)
  ·exact ⟨ya w _ _ h3,gF.back bu P N.y N.x (aH N.P Rep.str _ rfl)⟩
 |no=>exact absurd rfl ne
theorem Aq {t:T}{lo hi:Option Nat}{σ:Sg}(ne:ay (fD t lo hi) σ≠.stuck):Af t=false:=by
 have w:=Ao t lo hi;generalize fD t lo hi=o at w ne
 induction w with
 |no=>exact absurd rfl ne
 |_=>rfl
theorem aC.slice {v:Expr}{lo hi:Option Expr}{p pos:Pos}(hv:aC prog c A I (RV c (ai A)) (ag G L v) (eval v env))
  (h1:aC prog c A I (RI c) (jz G L lo) (evalPart lo env)) (h2:aC prog c A I (RI c) (jz G L hi) (evalPart hi env)):
  aC prog c A I (RV c (ai A)) (ag G L (.Subscript v (.Slice lo hi none p) pos)) (eval (.Subscript v (.Slice lo hi none p) pos) env):=
 fun Γ σ s P ne=>Subscript_ (seq (f:=fun t=>do let l ←jz G L lo;let h ←jz G L hi;ay (fD t.1 l h)) P ne hv.weak fun a aa af va s₁ _ y1 y2 ao ra ne1 e1=>
  wpAny_Slice (Dt (f:=fun l h=>ay (fD a.1 l h)) ao ne1 h1 (fun _=>h2) (fun e s' q=>(q.back P y1 y2).cast fun _ _ q=>e1.trans q) fun l u vl vu au aj aJ d0 cW jK aU jL z1 z2 z3 rl _ ru ne3 e3=>
   wpAny_evalPart_none (Wp.of (e1.trans e3) (cF bu P y1 y2 (cF bu ao z1 z2
    (Ap jL (Rep.look jL.st (pD.nE (RW.step (pre:=s.heap) (pre':=s.heap) ra z2) (Aq ne3))) rl ru ne3))))))
structure P6 (c:Cx) (G:Gh) (rs:List (T×Kd)) (vs:List Value):Prop where
 r:az c G (rs.map (·.1)) vs
 n:vs.length=rs.length
def zC (c:Cx)(_:Heap)(G:Gh)(_:Sg)(_:Heap)(rs:List (T×Kd))(vs:List Value):Prop:=P6 c G rs vs
theorem Ar:Back (zC c):=fun _ _ _ _ _ _ _ _ x=>x
theorem Dz:jJ (zC c):=fun _ _ _ _ _ _ _ x=>x
noncomputable def noStar:Expr→Bool
 |.Starred ..=>false
 |_=>true
theorem bD {e:Expr}{r:List Expr}(h:noStar e=true):starEach (e::r) env=(false,eval e env)::starEach r env:=by
 cases e with
 |Starred=>exact d9 h
 |_=>rfl
theorem fX {e:Expr}{es:List Expr}:br G L (e::es)=(do let t ←(ag G L e>>=Internal.solid);let ts ←br G L es;pure (t::ts)):=(M.assoc _ _ _).symm
theorem aC.row {es:List Expr}{pos:Pos}(hs:∀e∈es,noStar e=true)(h:∀e∈es,aC prog c A I (RV c (ai A)) (ag G L e) (eval e env)):
  aC prog c A I (zC c) (br G L es) (spliced (backTo pos (starEach es env))):=by
 induction es with
 |nil=>exact fun Γ σ s P ne=>wpAny_items_nil (km P rfl ⟨az.nil,rfl⟩)
 |cons e es ih=>
  have ih:=ih (fun x hx=>hs x (.tail _ hx)) (fun x hx=>h x (.tail _ hx));have h:=(h e (.head _)).solid;have hs:=hs e (.head _);rw [fX];exact fun Γ σ s P ne=>wpAny_items_cons (Dt (f:=fun t ts=>pure (t::ts)) P ne h (fun _=>ih) (fun _ _ q=>q)
   fun a b va vb aa af s₁ au aj aJ ao aU y1 y2 y3 ra _ rb ne2 e2=>gF.of e2 (gF.back Ar P y1 y2 (km aU rfl ⟨az.cons (Rep.mono y3.le _ _ ra.r) rb.r,congrArg Nat.succ rb.n⟩))) (bD hs)
inductive As {α β:Type} (m:M α) (f:α→M β) (σ:Sg) (b:β) (σ':Sg):Prop
 |mk (a:α) (aa:Sg) (e:m σ=.ok a aa) (e':f a aa=.ok b σ'):As m f σ b σ'
theorem Au {α β:Type}{m:M α}{f:α→M β}{σ σ':Sg}{b:β}(h:(m>>=f) σ=.ok b σ'):As m f σ b σ':=by
 induction e:m σ with
 |ok a aa=>exact ⟨a,aa,e,(M.aZ e).symm.trans h⟩
 |ct m s'=>exact OD ((M.cU e).symm.trans h)
 |stuck=>exact absurd e (M.aT fun q=>by exact PY (h.symm.trans q))
theorem jB:∀{es:List Expr} {σ σ':Sg} {rs:List (T×Kd)},br G L es σ=.ok rs σ'→rs.length=es.length
 |[],_,_,_,h=>by obtain ⟨rfl,rfl⟩:=G1 h;rfl
 |e::es,σ,σ',rs,h=>by
  obtain ⟨a,aa,_,h⟩:=Au (congrFun fX σ▸h);obtain ⟨b,au,e2,h⟩:=Au h;obtain ⟨rfl,rfl⟩:=G1 h;exact congrArg Nat.succ (jB e2)
theorem wR {es:List Expr}{rs:List (T×Kd)}{vs:List Value}{pre h:Heap}(hl:es.length≤1000)(e0:br G L es σ=.ok rs aa)(r:zC c pre Γ aa h rs vs):vs.length≤sizeLine:=by
 rw [r.n,jB e0,bC];exact Nat.le_trans hl (by decide)
theorem aC.list {es:List Expr}{pos:Pos}(hl:es.length≤1000)(h:∀p,aC prog c A I (zC c) (br G L es) (spliced (backTo p (starEach es env)))):
  aC prog c A I (RV c (ai A)) (ag G L (.List es pos)) (eval (.List es pos) env):=
 fun Γ σ s P ne=>wpAny_List (seq (f:=fun ts=>k4 (.list (ts.map (·.1)))) P ne (h pos) fun rs aa af vs s₁ e0 y1 y2 ao r ne1 e1=>
  have z:=wR hl e0 r
  ⟨z,gF.back bu P y1 y2 (kq ao r.r z 0 s₁.toks e1)⟩)
theorem aC.tuple {es:List Expr}{k:Nat}{pos:Pos}(hl:es.length≤1000)(h:∀p,aC prog c A I (zC c) (br G L es) (spliced (backTo p (starEach es env)))):
  aC prog c A I (RV c (ai A)) (ag G L (.Tuple es k pos)) (eval (.Tuple es k pos) env):=
 fun Γ σ s P ne=>wpAny_Tuple (seq (f:=fun ts=>val (.tup (ts.map (·.1)))) P ne (h pos) fun rs aa af vs s₁ e0 y1 y2 ao r ne1 e1=>
  have z:=wR hl e0 r
  ⟨z,gF.back bu P y1 y2 (qH (t:=.tup (rs.map fun (x:T×Kd)=>x.1)) ao rfl s₁.toks (eK.mk _ vs 0 Gh.dm z (az.mono (Gh.dY (ao.st.loose (bp _)).o) _ _ r.r)) e1)⟩)
end
end Mine.Internal
end
section
namespace Mine.Internal
open PySem PySem.W PyProof.Rows PySem.SeqAt
noncomputable def sx:Expr→Bool
 |.Call (.Name _ _) [] [] _=>false
 |_=>true
theorem gV {o:Expr}{a:Str}{env:PySem.Env}{X:Sem Value}(h:sx o=true):attributeBase o a env X=X:=by
 cases o with
 |Call f as ks p=>
  cases as with
  |cons=>cases f<;>rfl
  |nil=>cases ks with
   |cons=>cases f<;>rfl
   |nil=>cases f with
    |Name=>exact d9 h
    |_=>rfl
 |_=>rfl
theorem findObj_own {K:Frag}{C:Addr}{o:Obj}{n:Str}{v:Value}{cd:ClassData}(h1:clsIn K C=some cd)(h0:findIn K (.ref C) n=some none)(h2:cd.hasDict=true)(h:lookIn n o=some (some v)):findObj K C (some o) n=some (.value v):=by
 unfold findObj;rw [h1,Option.bind_some,h0];exact congrArg (fun z=>Option.bind z _) (show W.ownOf cd (some o) n=some (some v) from (if_pos h2).trans h)
theorem yc {K:Frag}{C:Addr}{ns:List Str}{od:Obj}{n:Str}{v:Value}(F:Dk K C ns)(hn:n∈ns)(h:lookIn n od=some (some v)):findObj K C (some od) n=some (.value v):=by
 obtain ⟨cd,h1,h2⟩:=F.cd;exact findObj_own h1 (F.attr n hn) h2 h
theorem wU {c:Cx}{ik ii ia:Value}{sh t1 t2 t3 t4 t5 n}:lookIn "kind" (aB (dP c ik ii ia sh t1 t2 t3 t4 t5) n)=some (some ik):=rfl
theorem nG {c:Cx}{ik ii ia:Value}{sh t1 t2 t3 t4 t5 n}:lookIn "items" (aB (dP c ik ii ia sh t1 t2 t3 t4 t5) n)=some (some ii):=rfl
theorem nH {c:Cx}{ik ii ia:Value}{sh t1 t2 t3 t4 t5 n}:lookIn "attrs" (aB (dP c ik ii ia sh t1 t2 t3 t4 t5) n)=some (some ia):=rfl
theorem d3 {α:Type}{P:α→Prop}{p:Prop}[Decidable p]{a b:α}(h:p→P a)(h':P b):P (if p then a else b):=by
 by_cases hp:p
 ·rw [if_pos hp];exact h hp
 ·rw [if_neg hp];exact h'
section
variable {prog:Program}{c:Cx}{A:Around}{I:Inv (ai A)}{Γ af:Gh}{σ aa:Sg}{s s₁:Shared}{env:PySem.Env}{L:Ev}{G:Calls}{E:Value→Shared→Prop}
theorem rR (F:Facts c)(S:St c Γ σ s.heap):c.K.In s.heap:=F.rR.keeps S.kept
theorem nI {C:Addr}{ns:List Str}{x d:Addr}{od:Obj}{n:Str}{v:Value}{Q:Value→Shared→Prop}(F:Facts c)(S:St c Γ σ s.heap)(f:Dk c.K C ns)(hn:n∈ns)
  (hx:s.heap.get? x=some (instObj C d)) (hd:s.heap.get? d=some od) (hl:lookIn n od=some (some v)) (hh:handedIn v=true) (h:Q v {s with toks:=s.toks+1}):wpAny (model prog c.w) A (getAttr (.ref x) n true) Q E s:=
 get_value (rR F S) ⟨hx,rfl,rfl,hd⟩ f.ga (yc f hn hl) hh h
theorem Rep.handed {t:T}{v:Value}(r:Rep c Γ t v):handedIn v=true:=by
 cases t with
 |none=>cases r.none_inv;rfl
 |bool=>cases r.bool_inv;rfl
 |int=>induction r.int_inv;rfl
 |str=>induction r.str_inv;rfl
 |tup=>induction r.cu;rfl
 |list=>induction r.aX;rfl
 |dict=>induction r.cI;rfl
 |vec k ah at'=>induction (show qC c Γ k (az c Γ ah) (Rep c Γ at') v from r);rfl
 |null=>induction (show qD c Γ v from r);rfl
 |range a b=>induction (show qE Γ a b v from r);rfl
 |row=>induction (show rY Γ v from r);rfl
 |self=>induction (show o7 Γ v from r);rfl
inductive gW (c:Cx) (h:Heap) (ik ii ia:Value):Value→Prop
 |mk (a d:Addr) (e:h.get? a=some (instObj c.vec d)) (i:bx c h d (ik,ii,ia)):gW c h ik ii ia (.ref a)
theorem gW.get {ik ii ia v w:Value}{n:Str}{R:Res (T×Kd)}(F:Facts c)(P:Pre c A I Γ σ s)(x:gW c s.heap ik ii ia v)(hn:n∈(["kind","items","attrs","shared","loose"]:List Str))(hl:∀sh t1 t2 t3 t4 t5 n',lookIn n (aB (dP c ik ii ia sh t1 t2 t3 t4 t5) n')=some (some w))(hh:handedIn w=true)
  (q:gF c A Γ σ s (RV c (ai A)) R w {s with toks:=s.toks+1}):Wp prog c A (RV c (ai A)) Γ σ s R (getAttr v n true) s:=by
 obtain ⟨a,d,e,o,hd,i⟩:=x;induction i with|mk sh t1 t2 t3 t4 t5 m=>?_
 exact nI F P.st F.JH hn e hd (hl ..) hh q
theorem Rep.Hr {k:Str}{ah:List T}{at':T}{v:Value}(S:St c Γ σ s.heap)(r:Rep c Γ (.vec k ah at') v):∃t ii ia,gW c s.heap (.str k t) ii ia v∧Rep c Γ (.list ah) ii∧Rep c Γ at' ia:=by
 induction (show qC c Γ k (az c Γ ah) (Rep c Γ at') v from r) with|mk a d b t vs n ia e i e' z y r'=>?_
 exact ⟨t,.ref b,ia,.mk a d (S.obj _ _ e) (S.gk _ _ i),eK.mk b vs n e' z y,r'⟩
inductive sy (c:Cx) (Γ:Gh) (h:Heap) (sv:aM) (a:Addr):Prop
 |mk (d:Addr) (t:Tok) (ii ia:Value) (e:Γ.self=some (a,d)) (eo:h.get? a=some (instObj c.vec d)) (i:bx c h d (.str sv.kind t,ii,ia)) (r:Rep c Γ (.list sv.items) ii) (q:bW c Γ h d sv.attrs ia):sy c Γ h sv a
theorem Rep.mO {v:Value}{sv:aM}(S:St c Γ σ s.heap)(r:Rep c Γ .self v)(hs:σ.self=some sv):∃a,v=.ref a∧sy c Γ s.heap sv a:=by
 induction (show o7 Γ v from r) with|mk a d h1=>?_
 obtain ⟨a',d',ii,ia,t,b1,b2,b3,b4,b5,b6⟩:=S.ez hs;cases Option.some.inj (h1.symm.trans b1);exact ⟨a,rfl,d,t,ii,ia,b1,S.obj _ _ b2,b4,b5,b6⟩
inductive Av (n:Str) (σ:Sg):T→Res (T×Kd)→Prop
 |vk (k:Str) (ah:List T) (at':T) (e:n="kind"):Av n σ (.vec k ah at') (.ok (.str k,.val) σ)
 |vi (k:Str) (ah:List T) (at':T) (e:n="items"):Av n σ (.vec k ah at') (.ok (.list ah,.val) σ)
 |va (k:Str) (ah:List T) (at':T) (e:n="attrs"):Av n σ (.vec k ah at') (.ok (at',.val) σ)
 |nk (e:n="kind"):Av n σ .null (.ok (.str "NULL",.val) σ)
 |na (e:n="attrs"):Av n σ .null (.ok (.none,.val) σ)
 |sk (sv:aM) (hs:σ.self=some sv) (e:n="kind"):Av n σ .self (.ok (.str sv.kind,.val) σ)
 |si (sv:aM) (hs:σ.self=some sv) (e:n="items"):Av n σ .self (.ok (.list sv.items,.val) σ)
 |sn (sv:aM) (hs:σ.self=some sv) (e:n="attrs") (ha:sv.attrs=none):Av n σ .self (.ok (.none,.val) σ)
 |ss (sv:aM) (hs:σ.self=some sv) (e:n="attrs") (es:List (Str×T)) (ha:sv.attrs=some es):Av n σ .self (.ok (.dict es,.h) σ)
 |no (t:T):Av n σ t .stuck
theorem Aw (t:T)(n:Str)(σ:Sg):Av n σ t (gA t n σ):=by
 cases t with
 |vec k ah at'=>exact d3 (.vk k ah at') (d3 (.vi k ah at') (d3 (.va k ah at') (.no _)))
 |null=>exact d3 .nk (d3 .na (.no _))
 |self=>
  unfold gA;dsimp only
  induction hs:σ.self with
  |none=>exact .no _
  |some sv=>
   refine d3 (.sk sv hs) (d3 (.si sv hs) (d3 (fun e=>?_) (.no _)))
   induction ha:sv.attrs with
   |none=>exact .sn sv hs e ha
   |some es=>exact .ss sv hs e es ha
 |_=>exact .no _
theorem wV {v:Value}{w:Value}{n:Str}{R:Res (T×Kd)}(F:Facts c)(P:Pre c A I Γ σ s)(r:Rep c Γ .null v)(hn:n∈(["kind","attrs"]:List Str))(hh:∀t1 t2 t3 m,∃w,lookIn n (aB [⟨c.H "kind",.str "kind" t1,.str "NULL" t3⟩,⟨c.H "attrs",.str "attrs" t2,.none⟩] m)=some (some w)∧handedIn w=true∧gF c A Γ σ s (RV c (ai A)) R w {s with toks:=s.toks+1}):
  Wp prog c A (RV c (ai A)) Γ σ s R (getAttr v n true) s:=by
 induction (show qD c Γ v from r) with|mk a d t1 t2 t3 m h1 h2=>?_
 obtain ⟨w,q1,q2,q3⟩:=hh t1 t2 t3 m;exact nI F P.st F.MA hn (P.st.obj _ _ h1) (P.st.obj _ _ h2) q1 q2 q3
theorem wW {v:T}{vv:Value}{n:Str}(F:Facts c)(P:Pre c A I Γ σ s)(rv:Rep c Γ v vv)(ne:gA v n σ≠.stuck):Wp prog c A (RV c (ai A)) Γ σ s (gA v n σ) (getAttr vv n true) s:=by
 have w:=Aw v n σ;generalize gA v n σ=o at w ne ⊢
 induction w with
 |vk k ah at' e=>subst e;obtain ⟨t,ii,ia,f,_,_⟩:=rv.Hr P.st;exact f.get F P (.head _) (fun _ _ _ _ _ _ _=>wU) rfl (aH P Rep.str _ rfl)
 |vi k ah at' e=>subst e;obtain ⟨t,ii,ia,f,r,_⟩:=rv.Hr P.st;exact f.get F P (.tail _ (.head _)) (fun _ _ _ _ _ _ _=>nG) r.handed (aH P r _ rfl)
 |va k ah at' e=>subst e;obtain ⟨t,ii,ia,f,_,r⟩:=rv.Hr P.st;exact f.get F P (.tail _ (.tail _ (.head _))) (fun _ _ _ _ _ _ _=>nH) r.handed (aH P r _ rfl)
 |nk e=>subst e;exact wV (w:=.none) F P rv (.head _) fun t1 t2 t3 m=>⟨.str "NULL" t3,rfl,rfl,aH P Rep.str _ rfl⟩
 |na e=>subst e;exact wV (w:=.none) F P rv (.tail _ (.head _)) fun t1 t2 t3 m=>⟨.none,rfl,rfl,aH P Rep.me _ rfl⟩
 |sk sv hs e=>subst e;obtain ⟨a,rfl,d,t,ii,ia,_,e,i,_,_⟩:=rv.mO P.st hs;exact (gW.mk a d e i).get F P (.head _) (fun _ _ _ _ _ _ _=>wU) rfl (aH P Rep.str _ rfl)
 |si sv hs e=>subst e;obtain ⟨a,rfl,d,t,ii,ia,_,e,i,r,_⟩:=rv.mO P.st hs;exact (gW.mk a d e i).get F P (.tail _ (.head _)) (fun _ _ _ _ _ _ _=>nG) r.handed (aH P r _ rfl)
 |sn sv hs e ha=>
  subst e;obtain ⟨a,rfl,d,t,ii,ia,_,e,i,r,q⟩:=rv.mO P.st hs;have q:ia=.none:=(congrArg (fun x=>bW c Γ s.heap d x ia) ha).mp q;exact (gW.mk a d e i).get F P (.tail _ (.tail _ (.head _))) (fun _ _ _ _ _ _ _=>nH) (q▸rfl) (aH P (q▸Rep.me) _ rfl)
 |ss sv hs e es ha=>
  subst e;obtain ⟨a,rfl,d,t,ii,ia,eg,e,i,r,q⟩:=rv.mO P.st hs;have q:uH c Γ s.heap d es ia:=(congrArg (fun x=>bW c Γ s.heap d x ia) ha).mp q;have hh:handedIn ia=true:=by induction q with|mk =>?_;rfl
  exact (gW.mk a d e i).get F P (.tail _ (.tail _ (.head _))) (fun _ _ _ _ _ _ _=>nH) hh ⟨_,σ,rfl,Γ,⟨s.heap,_⟩,P.st,Step.refl ..,wJ.mk es sv a d _ ii rfl hs ha eg i q⟩
 |no=>exact absurd rfl ne
theorem DA {t:T}{n:Str}{σ:Sg}(ne:gA t n σ≠.stuck):Af t=false:=by
 cases t with
 |dict=>exact absurd rfl ne
 |_=>rfl
theorem aC.attr {o:Expr}{a:Str}{pos:Pos}(F:Facts c)(hb:sx o=true)(ho:aC prog c A I (RV c (ai A)) (ag G L o) (eval o env)):
  aC prog c A I (RV c (ai A)) (ag G L (.Attribute o a pos)) (eval (.Attribute o a pos) env):=
 fun Γ σ s P ne=>Attribute_any_ (G9 (f:=fun (v:T×Kd)=>gA v.1 a) (K:=fun v=>getAttr v a true) bu P ne ho.weak fun r aa af v s₁ _ ao rr ne1=>wW F ao (pD.nE rr (DA ne1)) ne1) (by rw [arm_eval_Attribute,gV hb])
theorem lookup_mem {β:Type}{k:Str}{v:β}:∀{l:List (Str×β)},l.lookup k=some v→(k,v)∈l
 |[],h=>by exact bR h
 |(k',v')::l,h=>by
  rw [List.lookup_cons] at h;split at h
  ·rename_i q;induction Option.some.inj h;induction eq_of_beq q;exact .head _
  ·exact .tail _ (lookup_mem h)
inductive LL (L:Ev) (x:Str):Option T→Prop
 |own (p:T×Kd) (h:(x,p)∈L.own):LL L x (some p.1)
 |loc (t:T) (h:L.loc x=some t):LL L x (some t)
 |no:LL L x none
theorem Hs (L:Ev)(x:Str):LL L x (Internal.peek L x):=by
 unfold Internal.peek
 induction h:L.own.lookup x with
 |some p=>exact .own p (lookup_mem h)
 |none=>
  skip
  induction h':L.loc x with
  |some t=>exact .loc t h'
  |none=>exact .no
theorem aC.peek {old:Heap}{e:Expr}(F:Facts c){g:Str→Bool}(hg:∀x,g x=true→env.kindOf x=some .globalImplicit)(ok:∀x p,e=.Name x p→ll g x=true)(h:aC prog c A (cg c old (ai A) env L) (RV c (ai A)) (ag G L e) (eval e env)):
  aC prog c A (cg c old (ai A) env L) (RL c) (gC L e (ag G L e)) (eval e env):=by
 cases e with
 |Name x pos=>
  intro Γ σ s P ne;have ok:=ok x pos rfl;obtain ⟨hk,LJ,P4,m,hn,hl,Hc,f,P7,_⟩:=(show gS c old Γ s.heap (ai A) env L from P.inv);have w:=Hs L x;have e1:gC L (.Name x pos) (ag G L (.Name x pos)) σ=ay (Internal.peek L x) σ:=rfl;rw [e1] at ne ⊢;generalize Internal.peek L x=o at w ne ⊢
  induction w with
  |own p hp=>obtain ⟨v,b,q⟩:=P7 (x,p) hp;exact cJ hk hn b (kl (band (band ok).1).1) (kl (band (band ok).1).2) (km P (a:=p.1) rfl q.look)
  |loc t ht=>obtain ⟨v,b,q⟩:=Hc x t ht;exact cJ hk hn b (kl (band (band ok).1).1) (kl (band (band ok).1).2) (km P (a:=t) rfl (Rep.look P.st q))
  |no=>exact absurd rfl ne
 |_=>exact h.JP
end
def ml (C:Value)(h h':Heap):Prop:=∀b o,o.cls=C→h.get? b=some o→h'.get? b=some o
section
variable {c:Cx}{fr:List Addr}{G Γ₀ Γ af:Gh}{σ₀ σ aa σ':Sg}{h₀ h h' h₁:Heap}{a:Addr}
theorem ml.but {C:Value}{oa:Obj}(kp:∀b o,b≠a→h.get? b=some o→h'.get? b=some o)(e:h.get? a=some oa)(n:oa.cls≠C):ml C h h':=fun b o q e'=>kp b o (fun z=>by subst z;exact n ((congrArg Obj.cls (cV e e')).trans q)) e'
theorem uw.cls {x:Value×Value×Value}{o:Obj}(i:uw c x o):o.cls=.type "dict":=by induction i with|mk =>?_;rfl
theorem bx.fb {d:Addr}{x:Value×Value×Value}(i:bx c h d x)(k:ml (.type "dict") h h'):bx c h' d x:=by
 obtain ⟨o,e,q⟩:=i;exact ⟨o,k _ _ q.cls e,q⟩
theorem uH.fb {d:Addr}{es:List (Str×T)}{ia:Value}(y:uH c G h d es ia)(k:ml (.type "dict") h h'):uH c G h' d es ia:=by
 induction y with|mk D ds n a1 a2 a3 a4 a5 a6 a7=>?_
 exact uH.mk D ds n a1 a2 a3 (k _ _ rfl a4) a5 a6 a7
theorem bW.fb {d:Addr}{at':Option (List (Str×T))}{ia:Value}(y:bW c G h d at' ia)(k:ml (.type "dict") h h'):bW c G h' d at' ia:=by
 induction at' with
 |none=>exact y
 |some es=>exact uH.fb y k
theorem bT.fb {v:aM}(x:bT c G h v)(k:ml (.type "dict") h h'):bT c G h' v:=by
 obtain ⟨a,d,ii,ia,t,a1,a2,a3,a4,a5,a6⟩:=x;exact ⟨a,d,ii,ia,t,a1,a2,a3,a4.fb k,a5,a6.fb k⟩
theorem fg.fb {ns:List Int}(x:fg G h ns)(k:ml (.type "list") h h'):fg G h' ns:=by
 obtain ⟨r,vs,n,a1,a2,a3,a4,a5⟩:=x;exact ⟨r,vs,n,a1,a2,k _ _ rfl a3,a4,a5⟩
theorem ij.fb (x:ij c G h)(k:ml .none h h'):ij c G h':=by
 obtain ⟨m,q,Ja,e,r,y⟩:=x;exact ⟨m,q,Ja,k _ _ rfl e,r,y⟩
theorem bW.qP {d:Addr}{at':Option (List (Str×T))}{ia:Value}(y:bW c G h d at' ia)(k:∀b o,G.moves b→h.get? b=some o→h'.get? b=some o):bW c G h' d at' ia:=by
 induction at' with
 |none=>exact y
 |some es=>
  induction y with|mk D ds n a1 a2 a3 a4 a5 a6 a7=>?_
  exact uH.mk D ds n a1 a2 a3 (k _ _ a2 a4) a5 a6 a7
theorem bT.qP {v:aM}(x:bT c G h v)(k:∀b o,G.moves b→h.get? b=some o→h'.get? b=some o):bT c G h' v:=by
 obtain ⟨a,d,ii,ia,t,a1,a2,a3,a4,a5,a6⟩:=x;exact ⟨a,d,ii,ia,t,a1,a2,a3,rQ.keeps a4 fun o=>k d o a3,a5,a6.qP k⟩
structure fc (G:Gh) (h h':Heap) (a:Addr):Prop where
 kp:∀b o,b≠a→h.get? b=some o→h'.get? b=some o
 now:∃o,h'.get? a=some o
theorem fc.kept (t:fc G h h' a){b:Addr}{o:Obj}(n:b≠a)(e:h.get? b=some o):h'.get? b=some o:=t.kp b o n e
theorem fc.alive (t:fc G h h' a){b:Addr}{o:Obj}(e:h.get? b=some o):∃o',h'.get? b=some o':=by
 by_cases q:b=a
 ·subst q;exact t.now
 ·exact ⟨o,t.kept q e⟩
theorem fc.apart (t:fc Γ h h' a){b:Addr}(x:zU Γ h b):zU Γ h' b:=by
 obtain ⟨x1,x2,o,x3⟩:=x;refine (t.alive x3).elim fun o' e=>?_
 exact ⟨x1,x2,o',e⟩
theorem St.turn (S:St c Γ σ h)(t:fc Γ h h' a)(l:Γ.obj a=none)(i:Γ.gk a=none)(row:js (Γ.row=none) (fg Γ h') σ'.row)(self:js (Γ.self=none) (bT c Γ h') σ'.self)(tab:ij c Γ h'):St c Γ σ' h':=
 ⟨S.base,fun b o e=>t.kept (fun q=>by subst q;exact bR (l.symm.trans e)) (S.obj b o e),fun d y e=>rQ.keeps (S.gk d y e) fun o e'=>t.kept (fun q=>by subst q;exact bR (i.symm.trans e)) e',fun b e=>t.apart (S.apart b e),S.apart2,row,self,tab⟩
theorem Step.turn (t:fc Γ h h' a)(m:Γ.moves a)(ba:∀v v',σ.self=some v→σ'.self=some v'→v'.ep=v.ep→v'=v∧∀b,Γ.moves b→Γ.row≠some b→b≠Γ.tab→h'.get? b=h.get? b)(mono:∀v,σ.self=some v→∃v',σ'.self=some v'∧v.ep≤v'.ep):Step fr Γ σ h Γ σ' h':=
 ⟨.refl _,fun b o e=>t.alive e,fun b o e hm _ _=>t.kept (fun q=>hm (q▸m)) e,fun b o _ e l=>⟨o.slots,t.kept (fun q=>l.m (q▸m)) e⟩,fun b _ _=>.refl _ b,fun _ e=>.inl e,ba,mono⟩
theorem St.only (S:St c Γ σ h)(k:∀b o,¬Loose Γ b→h.get? b=some o→h'.get? b=some o):St c Γ σ h':=
 have nm:∀b o,Γ.moves b→h.get? b=some o→h'.get? b=some o:=fun b o m=>k b o fun l=>l.m m
 ⟨S.base,fun b o e=>k b o (fun l=>by exact bR (l.o.symm.trans e)) (S.obj b o e),fun d y e=>rQ.keeps (S.gk d y e) fun o=>k d o fun l=>(by exact bR (l.i.symm.trans e)),fun b e=>by
   obtain ⟨q1,q2,o,q3⟩:=S.apart b e
   exact ⟨q1,q2,o,nm b o e q3⟩,S.apart2,S.row.imp id fun ns q=>by
   obtain ⟨r,vs,n,a1,a2,a3,a4,a5⟩:=q
   exact ⟨r,vs,n,a1,a2,nm _ _ a2 a3,a4,a5⟩,S.self.imp id fun v q=>q.qP nm,by
   obtain ⟨m,q,ps,e,r,y⟩:=S.tab;exact ⟨m,q,ps,nm _ _ m e,r,y⟩⟩
theorem Step.only (x:Step fr Γ₀ σ₀ h₀ Γ σ h)(k:∀b o,h₀.get? b=some o→b∉fr→h'.get? b=h.get? b)(al:∀b DB o,h₀.get? b=some DB→h.get? b=some o→∃sl,h'.get? b=some {o with slots:=sl})(mv:∀b,Γ.moves b→h'.get? b=h.get? b):Step fr Γ₀ σ₀ h₀ Γ σ h':=
 ⟨x.le,fun b o e=>(x.alive b o e).elim fun o' e'=>(al b o o' e e').elim fun sl q=>⟨_,q⟩,fun b o e hm hi hf=>(k b o e hf).trans (x.keep b o e hm hi hf),fun b o hb e lb=>(x.frames b o hb e lb).elim fun sl e'=>(al b o _ e e').elim fun Mz q=>⟨Mz,q⟩,x.old,x.eX,
  fun v v' e e' q=>⟨(x.ba v v' e e' q).1,fun b hm hr ht=>(mv b (x.le.moves b hm)).trans ((x.ba v v' e e' q).2 b hm hr ht)⟩,x.mono⟩
structure pJ (c:Cx) (fr:List Addr) (Γ₀:Gh) (σ₀:Sg) (h₀:Heap) (Γ:Gh) (σ:Sg) (h':Heap):Prop where
 S:St c Γ σ h'
 x:Step fr Γ₀ σ₀ h₀ Γ σ h'
theorem fz (S:St c Γ σ h)(x:Step fr Γ₀ σ₀ h₀ Γ σ h)(n:h₀.get? a=none)(l:Loose Γ a)(kp:∀b o,b≠a→h.get? b=some o→h'.get? b=some o):pJ c fr Γ₀ σ₀ h₀ Γ σ h':=
 have na:∀{b o},h₀.get? b=some o→b≠a:=fun e q=>by subst q;exact bR (n.symm.trans e)
 have eq:∀{b o},h.get? b=some o→b≠a→h'.get? b=h.get? b:=fun e n=>(kp _ _ n e).trans e.symm
 ⟨S.only fun b o nl e=>kp b o (fun q=>nl (q▸l)) e,x.only (fun b o e _=>(x.alive b o e).elim fun o' e'=>eq e' (na e)) (fun b DB o e e'=>⟨o.slots,kp b o (na e) e'⟩) fun b m=>by
  obtain ⟨_,_,o,e⟩:=S.apart b m;exact eq e fun q=>l.m (q▸m)⟩
theorem dC (S:St c Γ σ h)(x:Step fr Γ₀ σ₀ h₀ Γ σ h)(n:h₀.get? a=none)(l:Loose Γ a)(sb:Heap.SameBut a h h'):pJ c fr Γ₀ σ₀ h₀ Γ σ h':=fz S x n l fun b o hb e=>(sb.2 b hb).trans e
end
inductive jM:T→Str→String→String→Prop
 |get (es:List (Str×T)):jM (.dict es) "get" "dict" "dict.get"
 |rjust (x:Str):jM (.str x) "rjust" "str" "str.rjust"
 |join (x:Str):jM (.str x) "join" "str" "str.join"
 |pop:jM .row "pop" "list" "list.pop"
theorem Ht {v:T}{m:Str}(h:G3 v m=true):∃T id,jM v m T id:=by
 cases v with
 |row=>cases of_decide_eq_true h;exact ⟨_,_,.pop⟩
 |dict=>cases of_decide_eq_true h;exact ⟨_,_,.get _⟩
 |str=>
  rcases of_decide_eq_true h with h|h
  ·subst h;exact ⟨_,_,.rjust _⟩
  ·subst h;exact ⟨_,_,.join _⟩
 |_=>exact d9 h
inductive MethW (σ:Sg):T→String→List T→Res (T×Kd)→Prop
 |get (es:List (Str×T)) (k:Str):MethW σ (.dict es) "dict.get" [.str k] (.ok ((es.lookup k).getD .none,.val) σ)
 |rjust (x f:Str) (n:Int) (c:Nat) (hc:f.cps.toList=[c]) (hn:n≤aq∧0≤n):MethW σ (.str x) "str.rjust" [.int n,.str f] (.ok (.str (jb x n.toNat c),.val) σ)
 |join (x y:Str) (h1:x.length≤aq) (h2:y.length≤aq):MethW σ (.str x) "str.join" [.list [.str y]] (.ok (.str y,.val) σ)
 |pop (r:List Int) (x:Int) (hs:σ.row=some r) (hx:r.getLast?=some x):MethW σ .row "list.pop" [] (.ok (.int x,.val) {σ with row:=some r.dropLast})
 |no (v:T) (id:String) (ts:List T):MethW σ v id ts .stuck
inductive wX (x m:Str) (σ:Sg):List T→Res (T×Kd)→Prop
 |a (n:Int) (f:Str):wX x m σ [.int n,.str f] (if m="rjust" then (match f.cps.toList with|[c]=>if n≤aq∧0≤n then .ok (.str (jb x n.toNat c),.val) σ else .stuck|_=>.stuck) else .stuck)
 |b (y:Str):wX x m σ [.list [.str y]] (if m="join"∧x.length≤aq∧y.length≤aq then .ok (.str y,.val) σ else .stuck)
 |no (ts:List T):wX x m σ ts .stuck
theorem sA (x m:Str)(ts:List T)(σ:Sg):wX x m σ ts (iz (.str x) m ts σ):=by
 cases ts with
 |nil=>exact .no _
 |cons t r=>cases r with
  |nil=>cases t with
   |list l=>cases l with
    |nil=>exact .no _
    |cons y r=>cases r with
     |cons=>exact .no _
     |nil=>cases y with
      |str y=>exact .b y
      |_=>exact .no _
   |_=>exact .no _
  |cons u r=>induction r with
   |cons=>exact .no _
   |nil=>cases t with
    |int n=>cases u with
     |str f=>exact .a n f
     |_=>exact .no _
    |_=>exact .no _
theorem ye (es:List (Str×T))(ts:List T)(σ:Sg):MethW σ (.dict es) "dict.get" ts (iz (.dict es) "get" ts σ):=by
 cases ts with
 |nil=>exact .no ..
 |cons t r=>induction r with
  |cons=>exact .no ..
  |nil=>cases t with
   |str k=>exact .get es k
   |_=>exact .no ..
theorem yf (ts:List T)(σ:Sg):MethW σ .row "list.pop" ts (iz .row "pop" ts σ):=by
 induction ts with
 |cons=>exact .no ..
 |nil=>
  show MethW σ _ _ _ (match σ.row with
   |some r=>(match r.getLast? with
    |some x=>.ok (.int x,.val) {σ with row:=some r.dropLast}
    |none=>.stuck)
   |none=>.stuck)
  induction hs:σ.row with
  |none=>exact .no ..
  |some r=>
   dsimp only
   induction hx:r.getLast? with
   |none=>exact .no ..
   |some x=>exact .pop r x hs hx
theorem methW_of {v:T}{m:Str}{Tn id:String}(x:jM v m Tn id)(ts:List T)(σ:Sg):MethW σ v id ts (iz v m ts σ):=by
 induction x with
 |get es=>exact ye es ts σ
 |pop=>exact yf ts σ
 |rjust x=>
  have w:=sA x "rjust" ts σ;generalize iz (.str x) "rjust" ts σ=o at w ⊢
  induction w with
  |a n f=>
   rw [if_pos rfl]
   cases hc:f.cps.toList with
   |nil=>exact .no ..
   |cons c r=>induction r with
    |cons=>exact .no ..
    |nil=>exact d3 (.rjust x f n c hc) (.no ..)
  |b y=>rw [if_neg fun q=>absurd q.1 (by decide)];exact .no ..
  |no=>exact .no ..
 |join x=>
  have w:=sA x "join" ts σ;generalize iz (.str x) "join" ts σ=o at w ⊢
  induction w with
  |a n f=>rw [if_neg (by decide)];exact .no ..
  |b y=>exact d3 (fun q=>.join x y q.2.1 q.2.2) (.no ..)
  |no=>exact .no ..
section
variable {prog:Program}{c:Cx}{A:Around}{I:Inv (ai A)}{Γ af:Gh}{σ aa:Sg}{s s₁:Shared}{env:PySem.Env}{L:Ev}{G:Calls}{E:Value→Shared→Prop}
inductive Gd (Γ:Gh) (σ:Sg) (h:Heap):Value→Prop
 |mk (a:Addr) (ns:List Int) (vs:List Value) (n:Nat) (h1:Γ.row=some a) (h2:σ.row=some ns) (h3:Γ.moves a) (h4:h.get? a=some (aG vs n)) (h5:IntsAre vs ns) (h6:ns.length≤100000):Gd Γ σ h (.ref a)
theorem Ax {v:Value}(P:Pre c A I Γ σ s)(r:Rep c Γ .row v):Gd Γ σ s.heap v:=by
 induction (show rY Γ v from r) with|mk a h1=>?_
 induction hr:σ.row with
 |none=>exact bR ((P.st.row.no hr).symm.trans h1)
 |some ns=>
  obtain ⟨r,vs,n,w1,w2,w3,w4,w5⟩:=P.st.rowAt hr;induction Option.some.inj (h1.symm.trans w1);exact ⟨a,ns,vs,n,h1,hr,w2,w3,w4,w5⟩
theorem DC {v:T}{m:Str}{Tn id:String}{vv:Value}{pos:Pos}{trees:List (Bool×Sem Value)}{Q:Value→Shared→Prop}(P:Pre c A I Γ σ s)(x:jM v m Tn id)(rv:Look c Γ s.heap v vv)
  (h:wpAny (model prog c.w) A (callWith pos (.builtin id) [vv] trees []) Q E s):MethodOn prog c.w A m pos vv trees Q E s:=by
 induction x with
 |get es=>
  induction (show gE s.heap.get? (es.map (·.1)) (aW c Γ es) vv from rv) with|mk a ds n nm e _=>?_
  exact ⟨_,_,F.plainAttrs_dict,F.slot_dict_get,F.type_dict_get,⟨_,e,rfl⟩,fun a e'=>by cases e';exact ⟨_,e,rfl⟩,h⟩
 |rjust x=>
  induction Rep.str_inv (show Rep c Γ (.str x) vv from rv);exact ⟨_,_,F.plainAttrs_str,F.slot_str_rjust,F.type_str_rjust,typeIs_str s x _,(fun a e'=>by cases e'),h⟩
 |join x=>
  induction Rep.str_inv (show Rep c Γ (.str x) vv from rv);exact ⟨_,_,F.plainAttrs_str,F.slot_str_join,F.type_str_join,typeIs_str s x _,(fun a e'=>by cases e'),h⟩
 |pop=>
  induction Ax P (show Rep c Γ .row vv from rv) with|mk a ns vs n _ _ _ e _=>?_
  exact ⟨_,_,F.plainAttrs_list,F.slot_list_pop,F.type_list_pop,⟨_,e,rfl⟩,fun a e'=>by cases e';exact ⟨_,e,rfl⟩,h⟩
theorem Ay {a:Addr}{ns LM:List Int}{vs MM:List Value}{n n':Nat}{h':Heap}(S:St c Γ σ s.heap)(h1:Γ.row=some a)(h2:σ.row=some ns)(h3:Γ.moves a)(h4:s.heap.get? a=some (aG vs n))
  (sb:Heap.SameBut a s.heap h') (h5:h'.get? a=some (aG MM n')) (h6:IntsAre MM LM) (h7:LM.length≤100000):
  St c Γ {σ with row:=some LM} h'∧Step (ai A) Γ σ s.heap Γ {σ with row:=some LM} h':=by
 obtain ⟨MN,MO,_⟩:=S.apart a h3;have kp:∀b o,b≠a→s.heap.get? b=some o→h'.get? b=some o:=fun b o hb e=>(sb.2 b hb).trans e
 have t:fc Γ s.heap h' a:=⟨kp,_,h5⟩
 exact ⟨S.turn t MN MO (fg.mk a MM n' h1 h3 h5 h6 h7) (S.self.imp id fun _ q=>q.fb (.but kp h4 (show (Value.type "list")≠.type "dict" by decide))) (S.tab.fb (.but kp h4 (fun q=>nomatch q))),
  Step.turn t h3 (fun v v' e e' _=>⟨Option.some.inj (e'.symm.trans e),fun b hm hr _=>sb.2 b (fun q=>hr (q▸h1))⟩) fun v e=>⟨v,e,Nat.le_refl _⟩⟩
inductive Ge (vs:List Value) (ns:List Int) (x:Int):Prop
 |mk (t:Tok) (e:vs[vs.length - 1]?=some (.int x t)) (r:IntsAre vs.dropLast ns.dropLast):Ge vs ns x
theorem yg {vs:List Value}{ns:List Int}{x:Int}(h:IntsAre vs ns):ns.getLast?=some x→Ge vs ns x:=by
 induction h with
 |nil=>exact fun e=>nomatch e
 |cons m u h ih=>
  induction h with
  |nil=>intro e;induction Option.some.inj e;exact ⟨u,rfl,.nil⟩
  |cons n' t' h'=>
   intro e;obtain ⟨w,h1,h2⟩:=ih (List.getLast?_cons_cons.symm.trans e);exact ⟨w,h1,.cons m u h2⟩
inductive JU (c:Cx) (G:Gh) (t:T):List Value→Prop
 |mk (v:Value) (r:Rep c G t v):JU c G t [v]
theorem az.gX {t:T}{vs:List Value}(r:az c Γ [t] vs):JU c Γ t vs:=by
 induction r with|mk v w h2 h3=>?_
 cases (show _=[] from h3);exact ⟨v,h2⟩
theorem Hu {x f:Str}{n:Int}{c:Nat}(hc:f.cps.toList=[c]):Txt.rjustF x n (f.cps.getD 0 0)=jb x n.toNat c:=by
 have hf:f.cps=#[c]:=Array.toList_inj.mp hc;rw [hf];show Txt.rjustF x n c=_;have h:(Txt.rjustF x n c).cps=(jb x n.toNat c).cps:=by unfold jb;rw [←rjustF_list x n c]
 exact congrArg Str.mk h
theorem wY (xs:List Value)(n:Nat):Obj.mapSeq (fun Hv=>Hv.eraseIdxIfInBounds (xs.toArray.size - 1)) (aG xs n)=aG xs.dropLast (if xs.dropLast.toArray.size == xs.toArray.size then n else n+1):=by
 have e2:xs.toArray.eraseIdxIfInBounds (xs.toArray.size - 1)=xs.dropLast.toArray:=by
  rw [List.eraseIdxIfInBounds_toArray,List.size_toArray,List.eraseIdx_length_sub_one]
 show ({cls:=.type "list",dict:=none,data:=.seq (xs.toArray.eraseIdxIfInBounds (xs.toArray.size - 1)) (if (xs.toArray.eraseIdxIfInBounds (xs.toArray.size - 1)).size == xs.toArray.size then n else n+1),slots:=#[]}:Obj)=_;rw [e2]
theorem uR {x y:Str}{u:Tok}(h1:x.length≤aq)(h2:y.length≤aq):Builtin.Str.tooLong (([(y,u)].map (·.1)).toArray.foldl (·+·.length+x.length) 0)=false:=by
 have hs:aq=1000:=rfl;have:=bC;simp [Builtin.Str.tooLong];lia
theorem DD {v:T}{id:String}{ts:List T}{vv:Value}{vs:List Value}{res:Res (T×Kd)}(P:Pre c A I Γ σ s)(w:MethW σ v id ts res)(rv:Look c Γ s.heap v vv)(rl:az c Γ ts vs)(ne:res≠.stuck):
  Wp prog c A (RV c (ai A)) Γ σ s res (call (.builtin id) (vv::vs)) s:=by
 induction w with
 |get es k=>
  induction (show gE s.heap.get? (es.map (·.1)) (aW c Γ es) vv from rv) with|mk a ds n nm e z _ r=>?_
  induction rl.gX with|mk w rk=>?_
  induction rk.str_inv with
  |mk t=>
  have q:=jI r k;refine call_meetsIn F.slot_dict_get ⟨_,e,rfl⟩ F.entry_dict_get (F.args_dict_get_2 _ _) (meets_dict_get (strKind prog c.w) a (strKind_is prog c.w k t) nm) ⟨_,mapOf (prog:=prog) e r,?_⟩;generalize es.lookup k=o at q ⊢
  induction q with
  |miss q=>rw [q];exact aH P Rep.me _ rfl
  |hit y w' q1 q2=>rw [q1];exact aH P q2 _ rfl
 |rjust x f n cp hc hn=>
  induction Rep.str_inv (show Rep c Γ (.str x) vv from rv);induction rl with|mk v1 w1 r1 rl=>?_
  induction az.gX rl with|mk w rk=>?_
  induction Rep.int_inv r1;induction rk.str_inv;have hs:aq=1000:=rfl;exact PyProof.Rows.rjust_fill (padOk_of (by lia) (by lia)) ((Array.length_toList).symm.trans (congrArg List.length hc)) fun t' k=>Hu hc▸aH P Rep.str _ rfl
 |join x y h1 h2=>
  induction Rep.str_inv (show Rep c Γ (.str x) vv from rv) with
  |mk t=>
  induction rl.gX with|mk w rk=>?_
  induction rk.aX with|mk a ws n e _ r=>?_
  induction az.gX r with|mk w rk=>?_
  induction rk.str_inv with
  |mk u=>exact call_meets F.slot_str_join (typeIs_str s x t) F.entry_str_join (F.args_str_join_2 _ _) (meets_str_join_list x t a [(y,u)] (uR h1 h2)) ⟨aD (P.st.obj _ _ e),dZ P Rep.str rfl⟩
 |pop r y hs hy=>
  induction Ax P (show Rep c Γ .row vv from rv) with|mk a ns xs n h1 h2 h3 h4 h5 h6=>?_
  induction Option.some.inj (hs.symm.trans h2);cases (show _=[] from rl);obtain ⟨t,q1,q2⟩:=yg h5 hy;have hz:xs.toArray.size≤sizeLine:=Nat.le_trans (Nat.le_of_eq h5.length) (Nat.le_trans h6 (by rw [bC];decide));refine call_meets F.slot_list_pop ⟨_,h4,rfl⟩ F.entry_list_pop (F.args_list_pop_1 _) (PySem.MeetsSeq.list_pop_last a xs.toArray n (.int y t) ((List.getElem?_toArray ..).trans q1) hz) ⟨h4,?_⟩
  have h7:(s.heap.update a (Obj.mapSeq fun Hv=>Hv.eraseIdxIfInBounds (xs.toArray.size - 1))).get? a=some (aG xs.dropLast (if xs.dropLast.toArray.size == xs.toArray.size then n else n+1)):=by
   rw [Heap.get?_update_self _ h4 (by rw [wY];rfl),wY]
  refine (Ay (A:=A) P.st h1 h2 h3 h4 (Heap.SameBut.update _ _ _) h7 q2 (by rw [List.length_dropLast];exact Nat.le_trans (Nat.sub_le ..) h6)).elim fun S' st=>?_
  exact ⟨_,_,rfl,Γ,⟨_,s.toks⟩,S',st,fG Rep.int⟩
 |no=>exact absurd rfl ne
theorem aC.args {es:List Expr}(hs:∀e∈es,noStar e=true){pos:Pos}{f:Value}{Q:Args→Shared→Prop}
  (h:wpAny (model prog c.w) A (spliced (backTo pos (starEach es env))) (fun vs s₁=>Q ⟨vs,[]⟩ s₁) E s):wpAny (model prog c.w) A (evalArgs f true (backTo pos (starEach es env)) []) Q E s:=by
 induction es with
 |nil=>
  skip
  skip
  exact wpAny_bind (wpAny_mono h (fun vs s' h'=>wpAny_bind (wpAny_pure (wpAny_holding (wpAny_bind (wpAny_pure (wpAny_bind (wpAny_pure (wpAny_pure h')))))))) fun _ _ x=>x)
 |cons e es=>
  rw [bD (hs e (.head _))] at h ⊢;exact Calls.evalArgs_plain h
theorem dD:∀{es:List Expr} (hs:∀e∈es,noStar e=true) {pos:Pos},(backTo pos (starEach es env)).any (·.1)=false
 |[],_,_=>rfl
 |e::es,hs,pos=>by
  rw [bD (hs e (.head _))];exact dD (fun x hx=>hs x (.tail _ hx))
theorem jN:∀{es:List Expr} (hs:∀e∈es,noStar e=true) {pos:Pos},(backTo pos (starEach es env)).all (fun x=>!x.1)=true
 |[],_,_=>rfl
 |e::es,hs,pos=>by
  rw [bD (hs e (.head _))];exact jN (fun x hx=>hs x (.tail _ hx))
theorem Hw {v:T×Kd}{m:Str}{f:M (T×Kd)}{σ:Sg}(ne:(if G3 v.1 m then f else stuck) σ≠.stuck):G3 v.1 m=true:=by
 by_cases h:G3 v.1 m=true
 ·exact h
 ·rw [if_neg h] at ne;exact absurd rfl ne
theorem aC.xW {o:Expr}{m:Str}{es:List Expr}{ap pos:Pos}(hb:sx o=true)(sC:(ap.endLine == pos.line)=true)(hl:es.length < 20)(hs:∀e∈es,noStar e=true)(ho:aC prog c A I (RV c (ai A)) (ag G L o) (eval o env))
  (h:∀p,aC prog c A I (zC c) (br G L es) (spliced (backTo p (starEach es env)))):
  aC prog c A I (RV c (ai A)) (ag G L (.Call (.Attribute o m ap) es [] pos)) (eval (.Call (.Attribute o m ap) es [] pos) env):=by
 intro Γ σ s P ne;refine wpAny_Call_method_late (gV hb) ?_ sC rfl (seq (f:=fun v=>if G3 v.1 m then (do let ts ←Internal.ba v.2 (br G L es);iz v.1 m (ts.map (·.1))) else stuck) P ne ho.kA fun a aa af va s₁ _ y1 y2 ao ra ne1 e1=>?_)
 ·rw [jN hs];exact decide_eq_true (show es.length < 30 from Nat.lt_trans hl (by decide))
 have hm:=Hw ne1;obtain ⟨Tn,id,x⟩:=Ht hm;rw [if_pos hm] at e1 ne1;exact DC ao x (RF.look ao.st ra) (Wp.of e1 (cF bu P y1 y2 (Calls.callWith_builtin (dD hs) (aC.args hs (seq (f:=fun (ts:List (T×Kd))=>iz a.1 m (ts.map fun (x:T×Kd)=>x.1)) ao ne1 ((h pos).ba Dz)
  fun ts au aj vs aJ e2 z1 z2 aU rt ne2 e3=>Wp.of e3 (cF bu ao z1 z2 (DD aU (methW_of x _ _) (RF.look aU.st (ra.step ao.st aU.st z2 (iE e2) (pre':=s.heap))) rt.r ne2)))))))
end
section
variable {prog:Program}{c:Cx}{A:Around}{I:Inv (ai A)}{Γ af:Gh}{σ aa:Sg}{s s₁:Shared}{env:PySem.Env}{L:Ev}{G:Calls}{E:Value→Shared→Prop}
theorem Az {t:T}{v:Value}{res:Res (T×Kd)}{h':Heap}(P:Pre c A I Γ σ s)(kp:∀b o,s.heap.get? b=some o→h'.get? b=some o)(r:Rep c Γ t v)(k:Nat)(e:res=.ok (t,.val) σ):
  gF c A Γ σ s (RV c (ai A)) res v {s with heap:=h',toks:=k}:=
 ⟨_,σ,e,Γ,⟨h',k⟩,P.st.keeps kp,Step.keeps kp P.st,fG r⟩
theorem sD {t:T}{o:Obj}{res:Res (T×Kd)}{h':Heap}{a:Addr}(P:Pre c A I Γ σ s)(kp:∀b o,s.heap.get? b=some o→h'.get? b=some o)(nn:s.heap.get? a=none)(ha:h'.get? a=some o)(k:Nat)(e:res=.ok (t,.own) σ)(r:mF c Γ t .own (.ref a) [(a,fun x=>x=o)]):
  gF c A Γ σ s (RV c (ai A)) res (.ref a) {s with heap:=h',toks:=k}:=
 ⟨_,σ,e,Γ,⟨_,k⟩,P.st.keeps kp,Step.keeps kp P.st,cT.mk [a] ⟨_,r,rfl,nA,aY ⟨⟨o,ha,rfl⟩,P.st.loose nn,P.fr.fresh nn⟩⟩ (aY nn)⟩
theorem pK {ts:List T}{vs:List Value}{res:Res (T×Kd)}{h':Heap}{a:Addr}(P:Pre c A I Γ σ s)(kp:∀b o,s.heap.get? b=some o→h'.get? b=some o)(nn:s.heap.get? a=none){n:Nat}(ha:h'.get? a=some (aG vs n))
  (r:az c Γ ts vs) (z:vs.length≤sizeLine) (k:Nat) (e:res=.ok (.list ts,.own) σ):gF c A Γ σ s (RV c (ai A)) res (.ref a) {s with heap:=h',toks:=k}:=sD P kp nn ha k e (.list ts _ vs n z r)
theorem yh {es:List (Str×T)}{ds:List DictEntry}{res:Res (T×Kd)}{h':Heap}{a:Addr}(P:Pre c A I Γ σ s)(kp:∀b o,s.heap.get? b=some o→h'.get? b=some o)(nn:s.heap.get? a=none)(nm:(a == sysModules)=false){n:Nat}(ha:h'.get? a=some (aB ds n))
  (r:aW c Γ es ds) (z:ds.length≤sizeLine) (nd:(es.map (·.1)).Nodup) (k:Nat) (e:res=.ok (.dict es,.own) σ):gF c A Γ σ s (RV c (ai A)) res (.ref a) {s with heap:=h',toks:=k}:=sD P kp nn ha k e (.dict es _ ds n nm z nd r)
noncomputable def kvsOf:List (Str×T)→List DictEntry→List (Str×Value)
 |(k,_)::es,d::ds=>(k,d.val)::kvsOf es ds
 |_,_=>[]
theorem gH:∀{es:List (Str×T)} {ds:List DictEntry},aW c Γ es ds→(kvsOf es ds).map (·.1)=es.map (·.1)
 |[],_,h=>by cases (show _=[] from h);rfl
 |(k,t)::es,_,h=>by
  induction h with|mk v tk r h2 h3=>?_
  exact congrArg (k::·) (gH h3)
theorem dE {es:List (Str×T)}{ds:List DictEntry}(h:aW c Γ es ds):(kvsOf es ds).length=es.length:=(List.length_map _).symm.trans ((congrArg List.length (gH h)).trans (List.length_map _))
theorem ly:∀{es:List (Str×T)} {ds:List DictEntry},aW c Γ es ds→Pairs (strKind prog c.w) ds (kvsOf es ds)
 |[],_,h=>by cases (show _=[] from h);exact .nil
 |(k,t)::es,_,h=>by
  induction h with|mk v tk r h2 h3=>?_
  exact .cons (strKind_is prog c.w k tk) rfl (ly h3)
theorem eB {h:Heap}{a:Addr}{es:List (Str×T)}{ds:List DictEntry}{n:Nat}(e:h.get? a=some (aB ds n))(r:aW c Γ es ds)(nd:(es.map (·.1)).Nodup):h.DictOf (strKind prog c.w) a (kvsOf es ds):=
 ⟨_,ds.toArray,n,e,⟨rfl,rfl,rfl⟩,rfl,fun e he=>by
  obtain ⟨k,t,e1,e2⟩:=r.mem e (Array.mem_toList_iff.mpr he);exact ⟨k,by rw [e1];exact strKind_is prog c.w k t,e2⟩,ly r,by rw [gH r];exact nd⟩
inductive mn (k:Str) (p:Value→Prop) (q:List (Str×Value)→Prop):List (Str×Value)→Prop
 |mk (v:Value) (r:List (Str×Value)) (h:p v) (h':q r):mn k p q ((k,v)::r)
def cR (c:Cx)(G:Gh):List (Str×T)→List (Str×Value)→Prop
 |[]=>fun pL=>pL=[]
 |(k,t)::es=>mn k (Rep c G t) (cR c G es)
theorem jd:∀{es:List (Str×T)} {ds:List DictEntry},aW c Γ es ds→cR c Γ es (kvsOf es ds)
 |[],_,h=>by cases (show _=[] from h);rfl
 |(k,t)::es,_,h=>by
  induction h with|mk v tk r h2 h3=>?_
  exact mn.mk v _ h2 (jd h3)
theorem Hx {e:DictEntry}{a:Int}{k v:Value}(h:e.hash=a)(h':e.key=k)(Jb:e.val=v):e=⟨a,k,v⟩:=by
 subst h h' Jb;rfl
inductive JV (c:Cx) (e:DictEntry) (k:Str):Prop
 |mk (t:Tok) (h:e.key=.str k t) (h':e.hash=c.H k):JV c e k
theorem MP {e:DictEntry}{k:Str}(p:(strKind prog c.w).is k e.key=true)(q:∃k,(strKind prog c.w).is k e.key=true∧e.hash=(strKind prog c.w).hash k):JV c e k:=by
 refine (Value.isStrOf_shape p).elim fun tk hk=>?_
 obtain ⟨k',h1,h4⟩:=q;refine (Value.isStrOf_shape h1).elim fun LN dh=>?_
 cases hk.symm.trans dh;exact ⟨tk,hk,h4⟩
theorem nJ:∀{es:List (Str×T)} {pL:List (Str×Value)} {ds:List DictEntry},cR c Γ es pL→Pairs (strKind prog c.w) ds pL→(∀e∈ds,∃k,(strKind prog c.w).is k e.key=true∧e.hash=(strKind prog c.w).hash k)→aW c Γ es ds
 |[],_,_,h,p,_=>by
  cases (show _=[] from h);cases p;exact aW.nil
 |(k,t)::es,_,_,h,p,q=>by
  induction h with|mk v r h2 h3=>?_
  cases p with
  |@cons e kv ds pL p1 p2 p3=>
  obtain ⟨tk,hk,h4⟩:=MP p1 (q e (.head _));exact Hx h4 hk p2▸aW.cons h2 (nJ h3 p3 fun e he=>q e (.tail _ he))
theorem cR.names:∀{es:List (Str×T)} {pL:List (Str×Value)},cR c Γ es pL→pL.map (·.1)=es.map (·.1)
 |[],_,h=>by cases (show _=[] from h);rfl
 |(k,t)::es,_,h=>by
  induction h with|mk v q r1 r2=>?_
  exact congrArg (k::·) (cR.names r2)
inductive DictAt (c:Cx) (Γ:Gh) (h:Heap) (a:Addr) (es:List (Str×T)):Prop
 |mk (ds:List DictEntry) (n:Nat) (e:h.get? a=some (aB ds n)) (r:aW c Γ es ds) (nd:(es.map (·.1)).Nodup):DictAt c Γ h a es
theorem fA {h:Heap}{a:Addr}{es:List (Str×T)}{pL:List (Str×Value)}(x:h.DictOf (strKind prog c.w) a pL)(r:cR c Γ es pL):DictAt c Γ h a es:=by
 obtain ⟨o,en,ep,h1,⟨h2,h3,h4⟩,h5,h6,h7,h8⟩:=x;refine ⟨en.toList,ep,?_,nJ r h7 fun e he=>h6 e (Array.mem_toList_iff.mp he),cR.names r▸h8⟩;obtain ⟨cl,di,da,sl⟩:=o;cases (show cl=_ from h2);cases (show di=_ from h3);cases (show sl=_ from h4);cases (show da=_ from h5);exact h1
inductive yi (σ:Sg):T→Res T→Prop
 |list (ts:List T):yi σ (.list ts) (.ok (.int ts.length) σ)
 |tup (ts:List T):yi σ (.tup ts) (.ok (.int ts.length) σ)
 |dict (es:List (Str×T)):yi σ (.dict es) (.ok (.int es.length) σ)
 |str (x:Str) (h:x.length≤aq):yi σ (.str x) (.ok (.int x.length) σ)
 |no (t:T):yi σ t .stuck
theorem wZ (t:T)(σ:Sg):yi σ t (o5 t σ):=by
 cases t with
 |list ts=>exact .list ts
 |tup ts=>exact .tup ts
 |dict es=>exact .dict es
 |str x=>exact d3 (.str x) (.no _)
 |_=>exact .no _
theorem Hy {v:T}{vv:Value}{r:T}(P:Pre c A I Γ σ s)(x:Look c Γ s.heap v vv)(h:o5 v σ=.ok r σ):Wp prog c A (RV c (ai A)) Γ σ s (.ok (r,.val) σ) (call (.builtin "len") [vv]) s:=by
 have w:=wZ v σ;generalize o5 v σ=o at w h
 induction w with
 |list ts=>
  cases h;obtain ⟨a,vs,n,h1,z,h2⟩:=(show eK s.heap.get? aG (az c Γ ts) vv from x);exact PyProof.Rows.len_list (aD h1) (qG z) (by rw [List.size_toArray,h2.length];exact aH P Rep.int _ rfl)
 |tup ts=>
  cases h;obtain ⟨a,vs,n,h1,z,h2⟩:=Rep.cu (show Rep c Γ (.tup _) vv from x);exact PyProof.Rows.len_tuple (sr (P.st.obj _ _ h1)) (qG z) (by rw [List.size_toArray,h2.length];exact aH P Rep.int _ rfl)
 |dict es=>
  cases h;induction (show gE s.heap.get? (es.map (·.1)) (aW c Γ es) vv from x) with|mk a ds n nm h1 z nd h2=>?_
  have hl:=dE h2;exact call_len_dict nm (eB (prog:=prog) h1 h2 nd) (qG (hl.trans h2.length.symm▸z)) (hl▸aH P Rep.int _ rfl)
 |str x' h'=>
  cases h;induction Rep.str_inv (show Rep c Γ (.str _) vv from x);exact PyProof.Rows.len_str (Int.not_le.mpr (qG (dp h'))) (aH P Rep.int _ rfl)
 |no=>exact Mn h
theorem DE {i:Int}{t:Tok}{Q:Value→Shared→Prop}(h:∀u tk,Q (.int i.natAbs u) {s with toks:=tk}):wpAny (model prog c.w) A (call (.builtin "abs") [.int i t]) Q E s:=by
 refine call_abs_int fun u tk=>?_
 have:(if i < 0 then -i else i)=(i.natAbs:Int):=by split;exact Int.ofNat_natAbs_of_nonpos (Int.le_of_lt ‹_›) |>.symm;exact (Int.natAbs_of_nonneg (Int.not_lt.mp ‹_›)).symm
 rw [this];exact h u tk
theorem mq (a:Int):∀(l:List Value) (k:Nat),(∀(j:Nat) (v:Value),l[j]?=some v→∃t,v=Value.int (a+((k+j:Nat):Int) * 1) t)→az c Γ ((List.range' k l.length).map fun (i:Nat)=>T.int (a+(i:Int))) l
 |[],_,_=>az.nil
 |v::l,k,hk=>by
  refine (hk 0 v rfl).elim fun t e=>?_
  subst e;refine az.cons ?_ (mq a l (k+1) fun j v hv=>?_)
  ·rw [Nat.add_zero,Int.mul_one];exact Rep.int
  ·refine (hk (j+1) v hv).elim fun t e=>?_
   subst e;exact ⟨t,by rw [show k+1+j=k+(j+1) from Nat.add_right_comm ..]⟩
theorem ints_rep {a:Int}{n:Nat}{vs:Array Value}(h:ItemsOf (fun i v=>∃t,v=Value.int (a+i * 1) t) vs n):az c Γ ((List.range n).map fun (i:Nat)=>T.int (a+(i:Int))) vs.toList:=by
 refine (h).elim fun hn h=>?_
 have:=mq (c:=c) (Γ:=Γ) a vs.toList 0 (fun j v hv=>by
  obtain ⟨t,e⟩:=h j v ((Array.getElem?_toList).symm.trans hv);exact ⟨t,by rw [e,Nat.zero_add]⟩)
 rw [Array.length_toList,hn] at this;rw [List.range_eq_range'];exact this
theorem lA {a b:Int}:Builtin.Range.rangeSize a b 1=((b - a).toNat:Int):=by
 refine (if_pos (by decide)).trans ?_;by_cases h:a < b
 ·exact (if_pos h).trans (((congrArg (·+1) (Int.ediv_one _)).trans (Int.sub_add_cancel ..)).trans (Int.toNat_of_nonneg (Int.sub_nonneg_of_le (Int.le_of_lt h))).symm)
 ·exact (if_neg h).trans (congrArg Int.ofNat (Int.toNat_of_nonpos (Int.sub_nonpos_of_le (Int.not_lt.mp h)))).symm
theorem AA {i:Int}{k:Nat}(h:i.natAbs≤k)(hk:k < 9223372036854775808):Builtin.Range.rangeFitsLong i=true:=by
 have h1:i≤k:=Int.le_trans Int.le_natAbs (Int.ofNat_le.mpr h);have h2:-i≤k:=Int.le_trans Int.le_natAbs (Int.ofNat_le.mpr (Int.natAbs_neg i▸h));have h3:(k:Int) < 2 ^ 63:=Int.ofNat_lt.mpr hk;exact Bool.and_eq_true_iff.mpr ⟨decide_eq_true (Int.neg_le_of_neg_le (Int.le_of_lt (Int.lt_of_le_of_lt h2 h3))),decide_eq_true (Int.lt_of_le_of_lt h1 h3)⟩
theorem DF {a b:Bool}(h:a=true)(k:b=true):(a&&b)=true:=by subst h;exact k
theorem mr {a b:Int}(h2:aO a=true)(h3:aO b=true):Builtin.Range.small a b 1=true:=by
 have h2:a.natAbs≤1000000000000000000:=Nat.le_of_lt (of_decide_eq_true h2);have h3:b.natAbs≤1000000000000000000:=Nat.le_of_lt (of_decide_eq_true h3)
 have n:Builtin.Range.rangeFitsLong (Builtin.Range.rangeSize a b 1)=true:=by
  rw [lA];exact AA (k:=2000000000000000000) (Nat.le_trans (Int.toNat_le.mpr Int.le_natAbs) (Nat.le_trans (Int.natAbs_sub_le ..) (Nat.add_le_add h3 h2))) (by decide)
 have k:=AA h3 (by decide);exact DF (DF (DF (DF (AA h2 (by decide)) k) rfl) n) (Bool.or_eq_true_iff.mpr (.inr ((if_pos (by decide)).trans ((Int.add_zero b).symm▸k))))
theorem nK {a b:Int}:(dz a b).length=(b - a).toNat:=by unfold dz;rw [List.length_map,List.length_range]
inductive nM (σ:Sg):Value→T→Res (T×Kd)→Prop
 |str (i:Int) (h:aO i=true):nM σ (.type "str") (.int i) (.ok (.str (bc i),.val) σ)
 |list (ts:List T):nM σ (.type "list") (.list ts) (.ok (.list ts,.own) σ)
 |Gg (a b:Int) (h2:aO a=true) (h3:aO b=true) (h4:b - a≤aq):nM σ (.type "list") (.range a b) (.ok (.list ((dz a b).map .int),.own) σ)
 |dict (es:List (Str×T)):nM σ (.type "dict") (.dict es) (.ok (.dict es,.own) σ)
 |abs (i:Int):nM σ (.builtin "abs") (.int i) (.ok (.int i.natAbs,.val) σ)
 |range (n:Int):nM σ (.type "range") (.int n) (.ok (.range 0 n,.val) σ)
 |no (id:Value) (t:T):nM σ id t .stuck
theorem sE {σ:Sg}{id:Value}{t:T}{p:Prop}[Decidable p]{m:M (T×Kd)}(h:p→nM σ id t (m σ)):nM σ id t ((if p then m else stuck) σ):=by
 by_cases hp:p
 ·rw [if_pos hp];exact h hp
 ·rw [if_neg hp];exact .no ..
inductive pb:Str→Value→Prop
 |len:pb "len" (.builtin "len")
 |str:pb "str" (.type "str")
 |list:pb "list" (.type "list")
 |dict:pb "dict" (.type "dict")
 |abs:pb "abs" (.builtin "abs")
 |range:pb "range" (.type "range")
 |max:pb "max" (.builtin "max")
 |P8:pb "isinstance" (.builtin "isinstance")
theorem nN:∀p∈bF,pb p.1 p.2:=
 List.forall_mem_cons.mpr ⟨.len,List.forall_mem_cons.mpr ⟨.str,List.forall_mem_cons.mpr ⟨.list,List.forall_mem_cons.mpr ⟨.dict,List.forall_mem_cons.mpr ⟨.abs,List.forall_mem_cons.mpr ⟨.range,List.forall_mem_cons.mpr ⟨.max,aY .P8⟩⟩⟩⟩⟩⟩⟩
theorem DG {f:Str}{id:Value}(hf:(f,id)∈bF)(t:T)(σ:Sg):nM σ id t (dX f [t] σ):=by
 cases nN _ hf with
 |str=>cases t with
  |int i=>exact sE fun h=>.str i h
  |_=>exact .no ..
 |list=>cases t with
  |list ts=>exact .list ts
  |range a b=>exact sE fun h=>.Gg a b (band (band h).1).1 (band (band h).1).2 (of_decide_eq_true (band h).2)
  |_=>exact .no ..
 |dict=>cases t with
  |dict es=>exact .dict es
  |_=>exact .no ..
 |abs=>cases t with
  |int i=>exact .abs i
  |_=>exact .no ..
 |range=>cases t with
  |int i=>exact .range i
  |_=>exact .no ..
 |_=>exact .no ..
theorem sF {t:T}{vv:Value}{id:Value}{res:Res (T×Kd)}(fa:Facts c)(P:Pre c A I Γ σ s)(w:nM σ id t res)(x:Rep c Γ t vv)(ne:res≠.stuck):Wp prog c A (RV c (ai A)) Γ σ s res (call id [vv]) s:=by
 induction w with
 |str i h=>induction x.int_inv;exact PySem.P.str_of_int (pE h) (aH P Rep.str _ rfl)
 |list ts=>
  induction x.aX with|mk a vs n h1 z h2=>?_
  exact call_list_seq a (.inl rfl) (P.st.obj _ _ h1) rfl rfl (fun h' c' kp he=>pK P kp (bp _) he h2 z s.toks rfl) z
 |Gg a b h2 h3 h4=>
  induction (show qE Γ a b vv from x) with|mk r t u y h1=>?_
  have hS:aq=1000:=rfl;refine call_list_range (n:=(b - a).toNat) P.fr.handled (P.st.obj _ _ h1) (mr h2 h3) lA (by lia) fun h' tk cO c' kp he hi=>?_
  have hl:=ints_rep (c:=c) (Γ:=Γ) hi;have hz:cO.toList.length=(b - a).toNat:=by rw [hl.length,List.length_map,List.length_range]
  refine pK P kp (bp _) (vs:=cO.toList) (n:=c') he ?_ (hz▸dp (Int.toNat_le.mpr h4)) tk rfl;unfold dz;rw [List.map_map];exact hl
 |dict es=>
  induction x.cI with|mk a ds n nm h1 z nd h2=>?_
  have hl:=dE h2;refine kt_call_dict nm (eB (prog:=prog) (P.st.obj _ _ h1) h2 nd) (by rw [hl,←h2.length];exact z) fun h' he sb=>?_
  obtain ⟨eN,n',q1,q2,q3⟩:=fA he (jd h2);exact yh P (fun b o eb=>(sb.2 b (Nat.ne_of_lt (Heap.lt_size eb))).trans (aL _ _ eb)) (bp _) (Heap.mL fa P.st.kept) q1 q2 (by rw [q2.length,←h2.length];exact z) nd s.toks rfl
 |abs i=>induction x.int_inv;exact DE fun u tk=>aH P Rep.int _ rfl
 |range n=>induction x.int_inv;exact call_range_1 (qH (t:=.range 0 n) P rfl _ (qE.mk _ _ _ _ Gh.dm) rfl)
 |no=>exact absurd rfl ne
inductive AB (σ:Sg):Value→T→T→Res (T×Kd)→Prop
 |range (a b:Int):AB σ (.type "range") (.int a) (.int b) (.ok (.range a b,.val) σ)
 |max (a b:Int):AB σ (.builtin "max") (.int a) (.int b) (.ok (.int (if a < b then b else a),.val) σ)
 |no (id:Value) (t t':T):AB σ id t t' .stuck
theorem DH {f:Str}{id:Value}(hf:(f,id)∈bF)(t t':T)(σ:Sg):AB σ id t t' (dX f [t,t'] σ):=by
 cases nN _ hf with
 |range=>cases t with
  |int a=>cases t' with
   |int b=>exact .range a b
   |_=>exact .no ..
  |_=>exact .no ..
 |max=>cases t with
  |int a=>cases t' with
   |int b=>exact .max a b
   |_=>exact .no ..
  |_=>exact .no ..
 |_=>exact .no ..
theorem sG {t t':T}{vv OK:Value}{id:Value}{res:Res (T×Kd)}(P:Pre c A I Γ σ s)(w:AB σ id t t' res)(x:Rep c Γ t vv)(x':Rep c Γ t' OK)(ne:res≠.stuck):Wp prog c A (RV c (ai A)) Γ σ s res (call id [vv,OK]) s:=by
 induction w with
 |range a b=>induction x.int_inv;induction x'.int_inv;exact call_range_2 (qH (t:=.range a b) P rfl _ (qE.mk _ _ _ _ Gh.dm) rfl)
 |max a b=>
  induction x.int_inv with
  |mk u=>
  induction x'.int_inv with
  |mk u'=>
  refine max_two_ints P.fr.handled fun h' tk kp=>?_
  have:(if b > a then Value.int b u' else Value.int a u)=Value.int (if a < b then b else a) (if a < b then u' else u):=by
   by_cases q:a < b
   ·rw [if_pos q,if_pos q,if_pos q]
   ·rw [if_neg q,if_neg q,if_neg q]
  rw [this];exact Az P kp Rep.int _ rfl
 |no=>exact absurd rfl ne
inductive AD:T→Option Bool→Prop
 |vec (k:Str) (ah:List T) (at':T):AD (.vec k ah at') (some true)
 |self:AD .self (some true)
 |null:AD .null (some false)
 |no (t:T):AD t none
theorem DI (t:T):AD t (ng t):=by
 cases t with
 |vec k ah at'=>exact .vec k ah at'
 |self=>exact .self
 |null=>exact .null
 |_=>exact .no _
inductive sH:T→Option Bool→Prop
 |str (x:Str):sH (.str x) (some true)
 |list (ts:List T):sH (.list ts) (some false)
 |dict (es:List (Str×T)):sH (.dict es) (some false)
 |vec (k:Str) (ah:List T) (at':T):sH (.vec k ah at') (some false)
 |self:sH .self (some false)
 |null:sH .null (some false)
 |no (t:T):sH t none
theorem DJ (t:T):sH t (nh t):=by
 cases t with
 |str x=>exact .str x
 |list x=>exact .list x
 |dict x=>exact .dict x
 |vec k ah at'=>exact .vec k ah at'
 |self=>exact .self
 |null=>exact .null
 |_=>exact .no _
theorem sI {v:Value}(S:St c Γ σ s.heap)(r:Rep c Γ .self v):qI c s.heap v:=by
 induction (show o7 Γ v from r) with|mk a d h1=>?_
 induction hs:σ.self with
 |none=>exact bR ((S.self.no hs).symm.trans h1)
 |some sv=>
  obtain ⟨a',d',ii,ia,t,b1,b2,b3,b4,_⟩:=S.ez hs;cases Option.some.inj (h1.symm.trans b1);obtain ⟨o,e⟩:=b4.ex;exact qI.mk a d o (S.obj _ _ b2) e
theorem AE {t:T}{vv:Value}(fa:Facts c)(P:Pre c A I Γ σ s)(x:Look c Γ s.heap t vv)(ne:(ay (ng t)>>=fun b=>val (.bool b)) σ≠.stuck):
  Wp prog c A (RV c (ai A)) Γ σ s ((ay (ng t)>>=fun b=>val (.bool b)) σ) (call (.builtin "isinstance") [vv,.ref c.vec]) s:=by
 have X:=rR fa P.st;have w:=DI t;generalize ng t=o at w ne ⊢
 induction w with
 |vec k ah at'=>induction (show qI c s.heap vv from x) with|mk a d o h1 _=>?_;exact isi_call X (fun M=>(Looks.ld h1).andThen .now) fa.lh (fun q=>by cases q) (dZ P Rep.bool rfl)
 |self=>induction sI P.st x with|mk a d o h1 _=>?_;exact isi_call X (fun M=>(Looks.ld h1).andThen .now) fa.lh (fun q=>by cases q) (dZ P Rep.bool rfl)
 |null=>
  induction (show qD c Γ vv from x) with|mk a d _ _ _ _ h1 h2=>?_
  obtain ⟨n1,n2,n3,n4,n5⟩:=fa.Ha c.nul (.tail _ (.head _));exact kin_callC X ⟨P.st.obj _ _ h1,rfl,rfl,P.st.obj _ _ h2⟩ fa.MB n2 n3 n4 fa.Hb fa.xX n5 (aH P Rep.bool _ rfl)
 |no=>exact absurd rfl ne
theorem sJ {vv:Value}{res:Res (T×Kd)}(fa:Facts c)(P:Pre c A I Γ σ s)(x:qI c s.heap vv)(AF:typeOf (.type "str")=pure (.type "type"))(e:res=.ok (.bool false,.val) σ):Wp prog c A (RV c (ai A)) Γ σ s res (call (.builtin "isinstance") [vv,.type "str"]) s:=by
 induction x with|mk a d o h1 h2=>?_
 obtain ⟨n1,n2,n3,n4,n5⟩:=fa.Ha c.vec (.head _);exact kin_callT (rR fa P.st) ⟨h1,rfl,rfl,h2⟩ n1 AF n2 n3 n4 fa.Hb fa.xX n5 (aH P Rep.bool _ e)
theorem AG {t:T}{vv:Value}(fa:Facts c)(P:Pre c A I Γ σ s)(x:Look c Γ s.heap t vv)(ne:(ay (nh t)>>=fun b=>val (.bool b)) σ≠.stuck):
  Wp prog c A (RV c (ai A)) Γ σ s ((ay (nh t)>>=fun b=>val (.bool b)) σ) (call (.builtin "isinstance") [vv,.type "str"]) s:=by
 have AF:typeOf (.type "str")=pure (.type "type"):=by kernel_rfl
 have w:=DJ t;generalize nh t=o at w ne ⊢
 induction w with
 |str x'=>induction Rep.str_inv (show Rep c Γ (.str _) vv from x);exact call_isinstance_yes (typeIs_str _ _ _) AF (by kernel_rfl) (dZ P Rep.bool rfl)
 |list ts=>induction (show eK s.heap.get? aG (az c Γ ts) vv from x) with|mk a vs n h1 _=>?_;exact call_isinstance (isinstance_false_list (by decide) AF (by kernel_rfl)) ⟨⟨_,h1,rfl⟩,aH P Rep.bool _ rfl⟩
 |dict es=>induction (show gE s.heap.get? (es.map (·.1)) (aW c Γ es) vv from x) with|mk a ds n _ h1 _=>?_;exact call_isinstance (isinstance_false_dict (by decide) AF (by kernel_rfl)) ⟨⟨_,h1,rfl⟩,aH P Rep.bool _ rfl⟩
 |vec k ah at'=>exact sJ fa P x AF rfl
 |self=>exact sJ fa P (sI P.st x) AF rfl
 |null=>
  induction (show qD c Γ vv from x) with|mk a d _ _ _ _ h1 h2=>?_
  obtain ⟨n1,n2,n3,n4,n5⟩:=fa.Ha c.nul (.tail _ (.head _));exact kin_callT (rR fa P.st) ⟨P.st.obj _ _ h1,rfl,rfl,P.st.obj _ _ h2⟩ n1 AF n2 n3 n4 fa.Hb fa.xX n5 (aH P Rep.bool _ rfl)
 |no=>exact absurd rfl ne
inductive DK (c:Cx):Str→Value→Prop
 |vec:DK c "Vector" (.ref c.vec)
 |str:DK c "str" (.type "str")
theorem DL {n:Str}{t:T}{vv cv:Value}(fa:Facts c)(P:Pre c A I Γ σ s)(x:Look c Γ s.heap t vv)(hn:DK c n cv)(ne:nj n t σ≠.stuck):
  Wp prog c A (RV c (ai A)) Γ σ s (nj n t σ) (call (.builtin "isinstance") [vv,cv]) s:=by
 induction hn with
 |vec=>exact AE fa P x ne
 |str=>exact AG fa P x ne
end
section
variable {c:Cx}{fr:List Addr}{Γ₀ Γ af:Gh}{σ₀ σ aa:Sg}{h₀ h h' h₁:Heap}{a:Addr}
theorem Step.inner {kg:List Addr}(S:St c Γ₀ σ₀ h₀)(x:Step fr Γ₀ σ₀ h₀ Γ σ h)(sub:∀b∈fr,b∈kg)(new:∀b∈kg,b∈fr∨h₀.get? b=none)(y:Step kg Γ σ h af aa h₁):Step fr Γ₀ σ₀ h₀ af aa h₁:=
 have old:∀{b o},h₀.get? b=some o→b∈kg→b∈fr:=fun {b o} e hb=>(new b hb).elim id fun q=>by exact bR (q.symm.trans e)
 have w:=Step.trans S (⟨x.le,x.alive,fun b o e hm hi hf=>x.keep b o e hm hi (fun q=>hf (sub b q)),fun b o hb e l=>x.frames b o (old e hb) e l,x.old,x.eX,x.ba,x.mono⟩:Step kg Γ₀ σ₀ h₀ Γ σ h) y
 ⟨w.le,w.alive,fun b o e hm hi hf=>w.keep b o e hm hi fun q=>hf (old e q),fun b o hb e l=>w.frames b o (sub b hb) e l,w.old,w.eX,w.ba,w.mono⟩
end
inductive dG (h₀:Heap) (Γ:Gh) (h:Heap) (ca:Addr):Prop
 |mk (n:h₀.get? ca=none) (l:Loose Γ ca) (v:Option Value) (q:h.IsCell ca v):dG h₀ Γ h ca
structure aA (c:Cx) (A₀ A:Around) (env:PySem.Env) (L:Ev) (Γ₀:Gh) (σ₀:Sg) (s₀:Shared) (Γ:Gh) (σ:Sg) (s:Shared):Prop where
 fh:St c Γ₀ σ₀ s₀.heap
 same:b0 s₀ s
 st:St c Γ σ s.heap
 fr:dW A Γ s.heap
 cX:gS c s₀.heap Γ s.heap (ai A) env L
 step:Step (ai A₀) Γ₀ σ₀ s₀.heap Γ σ s.heap
 inf:env.locals∈ai A
 top:∃outer,A.frames=some (env::outer)
 frame:env.frame=some env.locals
 sub:∀b∈ai A₀,b∈ai A
 new:∀b∈ai A,b∈ai A₀∨s₀.heap.get? b=none
 fresh:s₀.heap.get? env.locals=none
 cells:∀x ca,env.cells.lookup x=some ca→dG s₀.heap Γ s.heap ca
 apart:∀x y ca,env.cells.lookup x=some ca→env.cells.lookup y=some ca→x=y
 kinds:∀x,env.kindOf x=some .cell→∃ca,env.cells.lookup x=some ca
 uS:∀x,env.kindOf x≠some .free
section
variable {c:Cx}{A₀ A:Around}{env:PySem.Env}{L L':Ev}{Γ₀ Γ af:Gh}{σ₀ σ aa:Sg}{s₀ s s₁:Shared}{h h' h₁ old:Heap}{fr:List Addr}{t:T}{k:Kd}{v:Value}{as:List Addr}{m:Str→Option Value}
theorem aA.pre (P:aA c A₀ A env L Γ₀ σ₀ s₀ Γ σ s):Pre c A (cg c s₀.heap (ai A) env L) Γ σ s:=⟨P.st,P.fr,P.cX⟩
theorem dG.step {x:Step fr Γ σ h af aa h₁}{ca:Addr}(q:dG old Γ h ca):dG old af h₁ ca:=by
 obtain ⟨q1,q2,v,q3⟩:=q;refine (x.cell q2 q3).elim fun r1 r2=>?_
 exact ⟨q1,r2,v,r1⟩
theorem aA.re (P:aA c A₀ A env L Γ₀ σ₀ s₀ Γ σ s)(sm:b0 s s₁)(S:St c af aa s₁.heap)(F:dW A af s₁.heap)(x:Step (ai A₀) Γ₀ σ₀ s₀.heap af aa s₁.heap)(k:∀y ca,env.cells.lookup y=some ca→dG s₀.heap af s₁.heap ca)(E:zZ c s₀.heap af s₁.heap (ai A) env L'):aA c A₀ A env L' Γ₀ σ₀ s₀ af aa s₁:=
 ⟨P.fh,P.same.trans sm,S,F,⟨P.cX.kind,P.cX.glob,P.cX.blt,E⟩,x,P.inf,P.top,P.frame,P.sub,P.new,P.fresh,k,P.apart,P.kinds,P.uS⟩
theorem aA.next (P:aA c A₀ A env L Γ₀ σ₀ s₀ Γ σ s)(sm:b0 s s₁)(S:St c af aa s₁.heap)(x:Step (ai A) Γ σ s.heap af aa s₁.heap):aA c A₀ A env L Γ₀ σ₀ s₀ af aa s₁:=
 P.re sm S (P.fr.step x) (Step.inner P.fh P.step P.sub P.new x) (fun y ca e=>(P.cells y ca e).step (x:=x)) (P.cX.step x).bound
theorem aF.kept (y:aF c Γ h fr t k v as)(kp:∀b∈as,∀o,h.get? b=some o→h'.get? b=some o):aF c Γ h' fr t k v as:=y.turn (.refl _) fun a ha p q=>⟨q.g.keeps (kp a ha),q.l,q.f⟩
theorem aF.apart {a:Addr}(y:aF c Γ h fr t k v as)(sb:Heap.SameBut a h h')(n:a∉as):aF c Γ h' fr t k v as:=y.kept fun b hb o e=>(sb.2 b fun q=>n (q▸hb)).trans e
theorem aF.less {kg:List Addr}(y:aF c Γ h fr t k v as)(sub:∀b∈kg,b∈fr):aF c Γ h kg t k v as:=y.turn (.refl _) fun a ha p q=>⟨q.g,q.l,fun z=>q.f (sub _ z)⟩
theorem aF.je {b:Addr}(y:aF c Γ h fr t k v as)(m:b∈fr):b∉as:=fun q=>(y.iC b q).f m
theorem uw.nO {x:Value×Value×Value}{o:Obj}(p:uw c x o)(w:Option Value):o.data≠.cell w:=by induction p with|mk =>?_;exact fun q=>nomatch q
theorem mF.nO {ps:List Part}(r:mF c Γ t k v ps):∀p∈ps,∀o,p.2 o→∀w,o.data≠.cell w:=by
 have e:∀{o o':Obj},(∀w,o'.data≠.cell w)→o=o'→∀w,o.data≠.cell w:=fun h q=>q▸h
 induction r with
 |list=>exact aY fun _=>e fun _ q=>nomatch q
 |dict=>exact aY fun _=>e fun _ q=>nomatch q
 |vec=>exact List.forall_mem_cons.mpr ⟨fun _=>e (fun _ q=>nomatch q),aY fun _=>uw.nO⟩
 |io=>exact List.forall_mem_cons.mpr ⟨fun _=>e (fun _ q=>nomatch q),List.forall_mem_cons.mpr ⟨fun _=>uw.nO,aY fun _=>e fun _ q=>nomatch q⟩⟩
theorem aF.mP {a:Addr}{w:Option Value}(y:aF c Γ h fr t k v as)(n:h.IsCell a w):a∉as:=by
 obtain ⟨ps,r,rfl,nd,y⟩:=y;intro q;obtain ⟨p,hp,rfl⟩:=List.mem_map.mp q;obtain ⟨o,e,z⟩:=(y p hp).g;obtain ⟨o',e',z'⟩:=n;exact r.nO p hp o z w ((congrArg Obj.data (cV e e')).trans z')
end
inductive nP (h:Heap) (env:PySem.Env) (m:Str→Option Value) (x:Str) (v:Value):Prop
 |loc (k:env.kindOf x=some .local) (e:m x=some v):nP h env m x v
 |cell (k:NameKind) (ca:Addr) (hk:k=.cell∨k=.free) (e:env.kindOf x=some k) (e':env.cells.lookup x=some ca) (q:h.IsCell ca (some v)):nP h env m x v
inductive bG (h:Heap):T→Kd→Value→List Addr→Prop
 |list (ts:List T) (a:Addr):bG h (.list ts) .own (.ref a) [a]
 |dict (es:List (Str×T)) (a:Addr):bG h (.dict es) .own (.ref a) [a]
 |vec (k:Str) (ah:List T) (at':T) (a d C:Addr) (e:h.get? a=some (instObj C d)):bG h (.vec k ah at') .own (.ref a) [a,d]
 |io (k:Str) (ah:List T) (at':T) (a d b C:Addr) (e:h.get? a=some (instObj C d)) (c:Cx) (ik ia:Value) (i:bx c h d (ik,.ref b,ia)):bG h (.vec k ah at') .bg (.ref a) [a,d,b]
section
variable {c:Cx}{env:PySem.Env}{Γ:Gh}{h h':Heap}{fr:List Addr}{t:T}{k:Kd}{v w:Value}{as LO:List Addr}{m m':Str→Option Value}{x:Str}{own:List (Str×T×Kd)}{b:Addr}
theorem jH.nv (b:jH Γ h env m x v):nP h env m x v:=by
 induction b with
 |loc k e=>exact .loc k e
 |cell k ca h1 h2 h3 h4 h5=>exact .cell k ca h1 h2 h3 h4
theorem sL {k:NameKind}(h1:k=.cell∨k=.free)(h2:env.kindOf x=some k)(g:env.kindOf x=some .local):False:=by
 cases Option.some.inj (h2.symm.trans g);rcases h1 with q|q<;>cases q
theorem nP.det (b:nP h env m x v)(b':nP h env m x w):v=w:=by
 induction b with
 |loc h1 h2=>induction b' with
  |loc g1 g2=>exact Option.some.inj (h2.symm.trans g2)
  |cell k ca g1 g2=>exact (sL g1 g2 h1).elim
 |cell k ca h1 h2 h3 h4=>induction b' with
  |loc g1 g2=>exact (sL h1 h2 g1).elim
  |cell k' Ru g1 g2 g3 g4=>
   induction Option.some.inj (h3.symm.trans g3);obtain ⟨o,o1,o2⟩:=h4;obtain ⟨o',p1,p2⟩:=g4;induction cV o1 p1;cases o2.symm.trans p2;rfl
theorem Ns.det {a:Addr}{m m':Str→Option Value}(x:h.Ns a m)(y:h.Ns a m'):m=m':=by
 obtain ⟨o,es,ep,q1,q2,q3⟩:=x;obtain ⟨o',lg,dQ,r1,r2,r3⟩:=y;induction cV q1 r1;cases q2.symm.trans r2;exact funext fun n=>(q3.2 n).symm.trans (r3.2 n)
theorem aF.shape (y:aF c Γ h fr t k v as):bG h t k v as:=by
 obtain ⟨ps,r,rfl,nd,y⟩:=y;clear nd
 induction r with
 |list ts a=>exact .list ts a
 |dict es a=>exact .dict es a
 |vec k ah at' a d=>exact .vec k ah at' a d _ (y _ (.head _)).g.eq
 |io k ah at' a d b=>exact .io k ah at' a d b _ (y _ (.head _)).g.eq c _ _ (y _ (.tail _ (.head _))).g
noncomputable def dictAt (h:Heap)(a:Addr):Addr:=match h.get? a with
 |some o=>o.dict.getD a
 |none=>a
noncomputable def qQ (h:Heap)(d:Addr):Addr:=match h.get? d with
 |some o=>(match (idOf o).2.1 with|.ref b=>b|_=>d)
 |none=>d
noncomputable def shapeOf (h:Heap)(a:Addr):Kd→T→List Addr
 |.own,.vec ..=>[a,dictAt h a]
 |.bg,_=>[a,dictAt h a,qQ h (dictAt h a)]
 |_,_=>[a]
theorem pM {a d C:Addr}(e:h.get? a=some (instObj C d)):dictAt h a=d:=by unfold dictAt;rw [e];rfl
theorem uT {d b:Addr}{ik ia:Value}(i:bx c h d (ik,.ref b,ia)):qQ h d=b:=by
 obtain ⟨o,e,q⟩:=i;show (match h.get? d with|some o=>(match (idOf o).2.1 with|.ref b=>b|_=>d)|none=>d)=b;rw [e];show (match (idOf o).2.1 with|.ref b=>b|_=>d)=b;rw [q.val]
theorem bG.eq {a:Addr}(y:bG h t k (.ref a) as):as=shapeOf h a k t:=by
 generalize hv:Value.ref a=v at y
 induction y with
 |list=>cases hv;rfl
 |dict=>cases hv;rfl
 |vec _ _ _ a d C e=>cases hv;exact congrArg (fun x=>[a,x]) (pM e).symm
 |io _ _ _ a d b C e c ik ia i=>cases hv;show [a,d,b]=[a,dictAt h a,qQ h (dictAt h a)];rw [pM e,uT i]
theorem bG.root (y:bG h t k v as):∃a,v=.ref a:=by
 induction y<;>exact ⟨_,rfl⟩
theorem bG.det (y:bG h t k v as)(y':bG h t k v LO):as=LO:=by
 obtain ⟨a,rfl⟩:=y.root;exact y.eq.trans y'.eq.symm
def b9 (env:PySem.Env)(own:List (Str×T×Kd))(h:Heap)(b:Addr):Prop:=∀p∈own,∀m v as,h.Ns env.locals m→nP h env m p.1 v→bG h p.2.1 p.2.2 v as→b∉as
theorem b9.out {f:Str→List Addr}(x:b9 env own h b)(hm:h.Ns env.locals m)(o:zY c Γ h fr env m own f):∀p∈own,b∉f p.1:=fun p hp=>by
 obtain ⟨v,bd,y⟩:=o p hp;exact x p hp m v _ hm bd.nv y.shape
theorem b9.of {f:Str→List Addr}(hm:h.Ns env.locals m)(o:zY c Γ h fr env m own f)(k:∀p∈own,b∉f p.1):b9 env own h b:=fun p hp m' v as qR nv sh=>by
 induction Ns.det hm qR;obtain ⟨P9,MQ,y⟩:=o p hp;induction nv.det MQ.nv;cases sh.det y.shape;exact k p hp
abbrev Apart (env:PySem.Env)(own:List (Str×T×Kd))(pre h:Heap):Prop:=∀b,pre.get? b=none→b9 env own h b
end
section
variable {c:Cx}{A₀ A:Around}{env:PySem.Env}{L L':Ev}{Γ₀ Γ af:Gh}{σ₀ σ aa:Sg}{s₀ s s₁:Shared}{h h' h₁ old:Heap}{fr:List Addr}{t:T}{k:Kd}{v:Value}{as:List Addr}{m:Str→Option Value}{X:Addr→Prop}
structure mQ (Γ af:Gh) (h h₁:Heap) (X:Addr→Prop):Prop where
 le:Γ.Le af
 kp:∀b o,¬X b→h.get? b=some o→h₁.get? b=some o
 lo:∀b,¬X b→Loose Γ b→Loose af b
theorem mQ.cell (C:mQ Γ af h h₁ X){ca:Addr}{w:Option Value}(n:¬X ca)(q:h.IsCell ca w):h₁.IsCell ca w:=by
 obtain ⟨o,q1,q2⟩:=q;exact ⟨o,C.kp _ _ n q1,q2⟩
theorem mQ.uU (C:mQ Γ af h h₁ X){ca:Addr}(n:¬X ca)(q:dG old Γ h ca):dG old af h₁ ca:=by
 obtain ⟨q1,q2,v,q3⟩:=q;exact ⟨q1,C.lo _ n q2,v,C.cell n q3⟩
theorem mQ.ns (C:mQ Γ af h h₁ X){a:Addr}(n:¬X a)(q:h.Ns a m):h₁.Ns a m:=by
 obtain ⟨o,es,ep,q1,q2,q3⟩:=q;exact ⟨o,es,ep,C.kp _ _ n q1,q2,q3⟩
theorem mQ.Jc (C:mQ Γ af h h₁ X)(nc:∀y ca,env.cells.lookup y=some ca→¬X ca){y:Str}{w:Value}(b:jH Γ h env m y w):jH af h₁ env m y w:=by
 induction b with
 |loc k e=>exact .loc k e
 |cell k ca h1 h2 h3 h4 h5=>exact .cell k ca h1 h2 h3 (C.cell (nc _ _ h3) h4) (C.lo _ (nc _ _ h3) h5)
theorem mQ.own (C:mQ Γ af h h₁ X)(n:∀a∈as,¬X a)(y:aF c Γ h fr t k v as):aF c af h₁ fr t k v as:=y.turn C.le fun a ha p q=>⟨q.g.keeps fun o=>C.kp a o (n a ha),C.lo a (n a ha) q.l,q.f⟩
theorem mQ.DM (C:mQ Γ af h h₁ X)(nc:∀y ca,env.cells.lookup y=some ca→¬X ca){p:Str×T×Kd}(n:∀a∈as,¬X a)(y:kj c Γ h fr env m p as):kj c af h₁ fr env m p as:=by
 obtain ⟨v,b,q⟩:=y;exact ⟨v,C.Jc nc b,C.own n q⟩
theorem mQ.DN (C:mQ Γ af h h₁ X)(n:∀b∈ai A,¬X b)(F:dW A Γ h):dW A af h₁:=by
 obtain ⟨⟨l,hl,hF⟩,hh⟩:=F;refine ⟨⟨l,hl,fun e he=>?_⟩,hh⟩;obtain ⟨h1,F,o,h2,h3,h4,h5⟩:=hF e he;have nX:=n F (by unfold ai;rw [hl];exact List.mem_filterMap.mpr ⟨e,he,h2⟩);exact ⟨h1,F,o,h2,C.kp _ _ nX h3,h4,C.lo _ nX h5⟩
theorem mQ.MR (C:mQ Γ af h h₁ X)(nL:¬X env.locals)(nc:∀y ca,env.cells.lookup y=some ca→¬X ca)(no:∀b,X b→b9 env L.own h b)(E:zZ c old Γ h fr env L):zZ c old af h₁ fr env L:=by
 obtain ⟨m,ns,l,loc,f,o,ap,nd,new⟩:=E;exact ⟨m,C.ns nL ns,C.lo _ nL l,fun x t e=>(loc x t e).turn C.le fun _ b=>C.Jc nc b,f,fun p hp=>C.DM nc (fun a ha x=>(no a x).out ns o p hp ha) (o p hp),ap,nd,new⟩
theorem aA.chg (P:aA c A₀ A env L Γ₀ σ₀ s₀ Γ σ s)(C:mQ Γ af s.heap s₁.heap X)(nf:∀b∈ai A,¬X b)(nc:∀y ca,env.cells.lookup y=some ca→¬X ca)(no:∀b,X b→b9 env L.own s.heap b)(sm:b0 s s₁)(S:St c af aa s₁.heap)(x:Step (ai A₀) Γ₀ σ₀ s₀.heap af aa s₁.heap):aA c A₀ A env L Γ₀ σ₀ s₀ af aa s₁:=
 P.re sm S (C.DN nf P.fr) x (fun y ca e=>C.uU (nc y ca e) (P.cells y ca e)) (C.MR (nf _ P.inf) nc no P.cX.bound)
theorem mQ.avoid (C:mQ Γ af s.heap h₁ X)(P:aA c A₀ A env L Γ₀ σ₀ s₀ Γ σ s)(nf:∀b∈ai A,¬X b)(nc:∀y ca,env.cells.lookup y=some ca→¬X ca)(no:∀b,X b→b9 env L.own s.heap b){b:Addr}(x:b9 env L.own s.heap b):b9 env L.own h₁ b:=by
 obtain ⟨m,ns,l,loc,f,o,ap,nd,new⟩:=P.cX.bound;exact b9.of (C.ns (nf _ P.inf) ns) (fun p hp=>C.DM nc (fun a ha x=>(no a x).out ns o p hp ha) (o p hp)) (x.out ns o)
end
theorem bI {x:Str}{o:List (Str×T×Kd)}{p:Str×T×Kd}(h:p∈iA x o):p∈o∧p.1≠x:=⟨(List.mem_filter.mp h).1,of_decide_eq_true (List.mem_filter.mp h).2⟩
theorem mu {x:Str}{o:List (Str×T×Kd)}(h:(o.map (·.1)).Nodup):((iA x o).map (·.1)).Nodup:=List.Sublist.nodup (List.Sublist.map _ List.filter_sublist) h
noncomputable def DO (f:Str→List Addr)(x:Str)(as:List Addr):Str→List Addr:=fun y=>if y=x then as else f y
theorem kC {f:Str→List Addr}{x:Str}{as:List Addr}:DO f x as x=as:=if_pos rfl
theorem DP {f:Str→List Addr}{x y:Str}{as:List Addr}(n:y≠x):DO f x as y=f y:=if_neg n
section
variable {prog:Program}{c:Cx}{A₀ A:Around}{env:PySem.Env}{L L':Ev}{Γ₀ Γ af:Gh}{σ₀ σ aa:Sg}{s₀ s s₁:Shared}{E:Value→Shared→Prop}{G:Calls}{h h':Heap}{x:Str}{v:Value}{m m':Str→Option Value}{old:Heap}
inductive sM (c:Cx) (A:Around) (env:PySem.Env) (L:Ev) (old:Heap) (Γ:Gh) (h:Heap) (x:Str) (v:Value):Ev→Prop
 |val (t:T) (r:Rep c Γ t v):sM c A env L old Γ h x v (L.ax x t)
 |own (t:T) (k:Kd) (as:List Addr) (y:aF c Γ h (ai A) t k v as) (n:∀a∈as,old.get? a=none) (ap:∀b∈as,b9 env L.own h b):sM c A env L old Γ h x v (L.gQ x t k)
inductive JW (c:Cx) (A:Around) (env:PySem.Env) (L L':Ev) (old:Heap) (Γ:Gh) (h h':Heap) (x:Str) (v:Value) (m':Str→Option Value):Prop
 |mk (f:Str→List Addr) (o:zY c Γ h' (ai A) env m' L'.own f) (ap:∀p∈L'.own,∀q∈L'.own,p.1≠q.1→∀a∈f p.1,a∉f q.1) (nd:(L'.own.map (·.1)).Nodup) (new:∀p∈L'.own,∀a∈f p.1,old.get? a=none)
   (av:∀b,b9 env L.own h b→(∀t k,(x,t,k)∈L'.own→∀as,bG h t k v as→b∉as)→∀p∈L'.own,b∉f p.1):JW c A env L L' old Γ h h' x v m'
theorem sM.yj (hb:sM c A env L old Γ h x v L')(hm:h.Ns env.locals m)(ok:eY c old Γ h (ai A) env m L.own)(keep:∀p as,p.1≠x→kj c Γ h (ai A) env m p as→kj c Γ h' (ai A) env m' p as)
  (new:∀t k as,aF c Γ h (ai A) t k v as→kj c Γ h' (ai A) env m' (x,t,k) as):JW c A env L L' old Γ h h' x v m':=by
 obtain ⟨f,o,ap,nd,n⟩:=ok;have k1:∀p∈iA x L.own,kj c Γ h' (ai A) env m' p (f p.1):=fun p hp=>keep p _ (bI hp).2 (o p (bI hp).1)
 induction hb with
 |val t r=>exact ⟨f,k1,fun p hp q hq=>ap p (bI hp).1 q (bI hq).1,mu nd,fun p hp=>n p (bI hp).1,fun b hb _ p hp=>hb.out hm o p (bI hp).1⟩
 |own t k as y na av=>
  have e:∀p∈iA x L.own,DO f x as p.1=f p.1:=fun p hp=>DP (bI hp).2
  have x1:∀p∈iA x L.own,∀b∈as,b∉f p.1:=fun p hp b hb=>(av b hb).out hm o p (bI hp).1
  refine ⟨DO f x as,List.forall_mem_cons.mpr ⟨kC.symm▸new t k as y,fun p hp=>(e p hp).symm▸k1 p hp⟩,?_,List.nodup_cons.mpr ⟨fun q=>?_,mu nd⟩,List.forall_mem_cons.mpr ⟨kC.symm▸na,fun p hp=>(e p hp).symm▸n p (bI hp).1⟩,
   fun b hb hk=>List.forall_mem_cons.mpr ⟨kC.symm▸hk t k (.head _) as y.shape,fun p hp=>(e p hp).symm▸hb.out hm o p (bI hp).1⟩⟩
  ·refine List.forall_mem_cons.mpr ⟨List.forall_mem_cons.mpr ⟨fun q=>absurd rfl q,fun q hq _ b hb=>?_⟩,fun p hp=>List.forall_mem_cons.mpr ⟨fun _ b hb=>?_,fun q hq ne b hb=>?_⟩⟩
   ·rw [e q hq];rw [kC] at hb;exact x1 q hq b hb
   ·rw [e p hp] at hb;rw [kC];exact fun q=>x1 p hp b q hb
   ·rw [e p hp] at hb;rw [e q hq];exact ap p (bI hp).1 q (bI hq).1 ne b hb
  ·obtain ⟨p,hp,e⟩:=List.mem_map.mp q;exact (bI hp).2 e
theorem sM.loc (hb:sM c A env L old Γ h x v L')(loc:∀y t,L.loc y=some t→r8 c Γ h env m y t)(w0:∀y w,y≠x→jH Γ h env m y w→jH Γ h' env m' y w)(DQ:jH Γ h' env m' x v):∀y t,L'.loc y=some t→r8 c Γ h' env m' y t:=by
 have k:∀y t,y≠x→L.loc y=some t→r8 c Γ h' env m' y t:=fun y t q e=>by
  obtain ⟨w,q1,q2⟩:=loc y t e;exact ⟨w,w0 y w q q1,q2⟩
 intro y t hy
 induction hb with
 |val t' r=>
  have hy:(if y=x then some t' else L.loc y)=some t:=hy;by_cases q:y=x
  ·subst q;rw [if_pos rfl] at hy;induction Option.some.inj hy;exact ⟨v,DQ,r⟩
  ·rw [if_neg q] at hy;exact k y t q hy
 |own t' k' as=>
  have hy:(if y=x then none else L.loc y)=some t:=hy;by_cases q:y=x
  ·rw [if_pos q] at hy;exact bR hy
  ·rw [if_neg q] at hy;exact k y t q hy
inductive qS (env:PySem.Env) (L L':Ev) (h h':Heap) (x:Str) (v:Value):Prop
 |mk (a:Addr) (ha:a=env.locals∨env.cells.lookup x=some a) (sb:Heap.SameBut a h h') (av:∀b,b9 env L.own h b→(∀t k,(x,t,k)∈L'.own→∀as,bG h t k v as→b∉as)→b9 env L'.own h' b):qS env L L' h h' x v
structure AH (c:Cx) (A:Around) (env:PySem.Env) (h₀:Heap) (Γ:Gh) (h h':Heap) (m m':Str→Option Value) (x:Str) (v:Value) (a:Addr):Prop where
 ha:a=env.locals∨env.cells.lookup x=some a
 l:Loose Γ a
 n:h₀.get? a=none
 sb:Heap.SameBut a h h'
 ns:h'.Ns env.locals m'
 own:∀t k v as,aF c Γ h (ai A) t k v as→a∉as
 fr:∀F o,F∈ai A→h.get? F=some o→∃o',h'.get? F=some o'∧∀vs,o'.data≠.fields vs
 cell:∀y ca,env.cells.lookup y=some ca→dG h₀ Γ h ca→dG h₀ Γ h' ca
 w0:∀y w,y≠x→jH Γ h env m y w→jH Γ h' env m' y w
 DQ:jH Γ h' env m' x v
theorem aA.bind {a:Addr}{tk:Nat}(P:aA c A₀ A env L Γ₀ σ₀ s₀ Γ σ s)(hm:s.heap.Ns env.locals m)(T:AH c A env s₀.heap Γ s.heap h' m m' x v a)(hb:sM c A env L s₀.heap Γ s.heap x v L'):
  aA c A₀ A env L' Γ₀ σ₀ s₀ Γ σ {s with heap:=h',toks:=tk}∧qS env L L' s.heap h' x v:=by
 have W:=dC P.st P.step T.n T.l T.sb;obtain ⟨AI,e4,e5,e6,ok⟩:=P.cX.bound;induction Ns.det e4 hm;obtain ⟨f,o,ap,nd,new,av⟩:=hb.yj (h':=h') (m':=m') e4 ok (fun p as hp q=>by obtain ⟨w,q1,q2⟩:=q;exact ⟨w,T.w0 _ _ hp q1,q2.apart T.sb (T.own _ _ _ _ q2)⟩) fun t k as y=>⟨v,T.DQ,y.apart T.sb (T.own _ _ _ _ y)⟩
 refine ⟨P.re ⟨h',tk⟩ W.S ?_ W.x (fun y ca e=>T.cell y ca e (P.cells y ca e)) ⟨m',T.ns,e5,hb.loc e6 T.w0 T.DQ,f,o,ap,nd,new⟩,a,T.ha,T.sb,fun b hb hk=>b9.of T.ns o (av b hb hk)⟩;obtain ⟨⟨l,hl,hF⟩,hh⟩:=P.fr;refine ⟨⟨l,hl,fun e he=>?_⟩,hh⟩;obtain ⟨h1,F,o,h2,h3,h4,h5⟩:=hF e he;obtain ⟨o',q1,q2⟩:=T.fr F o (by unfold ai;rw [hl];exact List.mem_filterMap.mpr ⟨e,he,h2⟩) h3;exact ⟨h1,F,o',h2,q1,q2,h5⟩
theorem nQ {a:Addr}{w:Option Value}(x:h.Ns a m)(y:h.IsCell a w):False:=by
 obtain ⟨o,es,ep,h1,h2,_⟩:=x;obtain ⟨o',e,q⟩:=y;induction cV h1 e;cases h2.symm.trans q
theorem dG.jO {h₀:Heap}{ca:Addr}(x:dG h₀ Γ h ca)(hm:h.Ns env.locals m):ca≠env.locals:=by
 rintro rfl
 obtain ⟨_,_,w,q⟩:=x;exact nQ hm q
theorem dG.but {h₀:Heap}{a ca:Addr}(x:dG h₀ Γ h ca)(n:ca≠a)(sb:Heap.SameBut a h h'):dG h₀ Γ h' ca:=by
 obtain ⟨q1,q2,w,q3⟩:=x;exact ⟨q1,q2,w,q3.sameBut sb n⟩
theorem aA.OL {a:Addr}{o':Obj}(P:aA c A₀ A env L Γ₀ σ₀ s₀ Γ σ s)(sb:Heap.SameBut a s.heap h')(e':h'.get? a=some o')(d:∀vs,o'.data≠.fields vs):∀F o,F∈ai A→s.heap.get? F=some o→∃o',h'.get? F=some o'∧∀vs,o'.data≠.fields vs:=by
 intro F o hF e;by_cases q:F=a
 ·subst q;exact ⟨o',e',d⟩
 ·obtain ⟨Qa,q1,q2,_⟩:=P.fr.alive hF;induction cV e q1;exact ⟨o,(sb.2 F q).trans e,q2⟩
theorem aA.yk {v:Value}(P:aA c A₀ A env L Γ₀ σ₀ s₀ Γ σ s)(hk:env.kindOf x=some .local)(e4:s.heap.Ns env.locals m)(sb:Heap.SameBut env.locals s.heap h')(LP:h'.Ns env.locals fun y=>if y=x then some v else m y):
  AH c A env s₀.heap Γ s.heap h' m (fun y=>if y=x then some v else m y) x v env.locals:=by
 have hn:=LP;obtain ⟨o',es,ep,r1,r2,_⟩:=hn;refine ⟨.inl rfl,?_,P.fresh,sb,LP,fun t k w as y=>y.je P.inf,P.OL sb r1 fun vs q=>(by cases r2.symm.trans q),fun y ca e ck=>ck.but (ck.jO e4) sb,fun y w hy b=>?_,.loc hk (if_pos rfl)⟩
 ·obtain ⟨_,_,e5,_⟩:=P.cX.bound;exact e5
 ·induction b with
  |loc h1 h2=>exact .loc h1 ((if_neg hy).trans h2)
  |cell k ca h1 h2 h3 h4 h5=>exact .cell k ca h1 h2 h3 (h4.sameBut sb ((P.cells y ca h3).jO e4)) h5
theorem aA.uV {v:Value}{ca:Addr}(P:aA c A₀ A env L Γ₀ σ₀ s₀ Γ σ s)(hk:env.kindOf x=some .cell)(hc:env.cells.lookup x=some ca)(e4:s.heap.Ns env.locals m)(sb:Heap.SameBut ca s.heap h')(ic:h'.IsCell ca (some v)):
  AH c A env s₀.heap Γ s.heap h' m m x v ca:=by
 have ck:=P.cells x ca hc;have nl:=ck.jO e4;obtain ⟨c1,c2,MS,c3⟩:=ck;have Qb:=ic;obtain ⟨o',r1,r2⟩:=Qb;refine ⟨.inr hc,c2,c1,sb,e4.sameBut sb (fun q=>nl q.symm),fun t k w as y=>y.mP c3,P.OL sb r1 fun vs q=>(by cases r2.symm.trans q),fun y cb ey ck=>?_,fun y w hy b=>?_,.cell .cell ca (.inl rfl) hk hc ic c2⟩
 ·by_cases q:cb=ca
  ·subst q;exact ⟨c1,c2,_,ic⟩
  ·exact ck.but q sb
 ·induction b with
  |loc h1 h2=>exact .loc h1 h2
  |cell k cb h1 h2 h3 h4 h5=>exact .cell k cb h1 h2 h3 (h4.sameBut sb (fun q=>hy (P.apart _ _ _ (q▸h3) hc))) h5
theorem aA.store {Q:Unit→Shared→Prop}(P:aA c A₀ A env L Γ₀ σ₀ s₀ Γ σ s)(hk:env.kindOf x=some .local∨env.kindOf x=some .cell)(hb:sM c A env L s₀.heap Γ s.heap x v L')
  (h:∀h' tk,aA c A₀ A env L' Γ₀ σ₀ s₀ Γ σ {s with heap:=h',toks:=tk}→qS env L L' s.heap h' x v→Q () {s with heap:=h',toks:=tk}):wpAny (model prog c.w) A (storeName env x v) Q E s:=by
 obtain ⟨m,e4,_⟩:=P.cX.bound;rcases hk with hk|hk
 ·exact wpAny_storeName_local hk e4 (fun h' LP sb=>(P.bind e4 (P.yk hk e4 sb LP) hb).elim (h h' _)) (by rw [P.cX.kind];rfl)
 ·refine (P.kinds x hk).elim fun ca hc=>?_
  obtain ⟨_,_,MS,c3⟩:=P.cells x ca hc;exact wpAny_storeName_cell P.cX.kind hk hc c3 fun h' ic sb=>(P.bind (tk:=s.toks) e4 (P.uV hk hc e4 sb ic) hb).elim (h h' s.toks)
inductive mI (c:Cx) (A₀:Around) (s₀:Shared) (Γ:Gh) (σ:Sg) (h:Heap) (t:T×Kd):Flow→Prop
 |mk (v:Value) (r:RV c (ai A₀) s₀.heap Γ σ h t v):mI c A₀ s₀ Γ σ h t (.ret v)
def JX (c:Cx)(A₀:Around)(s₀:Shared)(Γ:Gh)(σ:Sg)(h:Heap):Out→Flow→Prop
 |.next=>fun f=>f=.next
 |.cont=>fun f=>f=.cont
 |.ret t k=>mI c A₀ s₀ Γ σ h (t,k)
inductive SQ (c:Cx) (A₀ A:Around) (env:PySem.Env) (Γ₀:Gh) (σ₀:Sg) (s₀:Shared) (res:Res (Out×Ev)) (f:Flow) (s':Shared):Prop
 |mk (o:Out) (L':Ev) (σ':Sg) (a0:Gh) (e:res=.ok (o,L') σ') (P:aA c A₀ A env L' Γ₀ σ₀ s₀ a0 σ' s') (r:JX c A₀ s₀ a0 σ' s'.heap o f):SQ c A₀ A env Γ₀ σ₀ s₀ res f s'
inductive SE (c:Cx) (A₀ A:Around) (Γ₀:Gh) (σ₀:Sg) (s₀:Shared) {α:Type} (res:Res α):Value→Shared→Prop
 |mk (m:Str) (σ':Sg) (a0:Gh) (ea:Addr) (s':Shared) (e:res=.ct m σ') (sm:b0 s₀ s') (st:St c a0 σ' s'.heap) (sp:Step (ai A₀) Γ₀ σ₀ s₀.heap a0 σ' s'.heap) (fr:dW A a0 s'.heap) (x:mH c (ai A) s₀.heap a0 s'.heap ea m):SE c A₀ A Γ₀ σ₀ s₀ res (.ref ea) s'
def Gi (prog:Program)(c:Cx)(A₀ A:Around)(env:PySem.Env)(Γ₀:Gh)(σ₀:Sg)(s₀:Shared)(res:Res (Out×Ev))(X:Sem Flow)(s:Shared):Prop:=
 wpAny (model prog c.w) A X (SQ c A₀ A env Γ₀ σ₀ s₀ res) (SE c A₀ A Γ₀ σ₀ s₀ res) s
theorem Gi.of {res kh:Res (Out×Ev)}{X:Sem Flow}(e:res=kh)(h:Gi prog c A₀ A env Γ₀ σ₀ s₀ kh X s):Gi prog c A₀ A env Γ₀ σ₀ s₀ res X s:=e▸h
def gp (prog:Program)(c:Cx)(A₀ A:Around)(env:PySem.Env)(m:Ev→M (Out×Ev))(X:Sem Flow):Prop:=
 ∀L Γ₀ σ₀ s₀ Γ σ s,aA c A₀ A env L Γ₀ σ₀ s₀ Γ σ s→m L σ≠.stuck→Gi prog c A₀ A env Γ₀ σ₀ s₀ (m L σ) X s
def bk (prog:Program)(c:Cx)(A:Around)(env:PySem.Env)(G:Calls)(e:Expr):Prop:=∀old L,aC prog c A (cg c old (ai A) env L) (RV c (ai A)) (ag G L e) (eval e env)
def iF (prog:Program)(c:Cx)(A:Around)(env:PySem.Env)(G:Calls)(e:Expr):Prop:=∀old L,aC prog c A (cg c old (ai A) env L) RB (bO G L e (ag G L e)) (PySem.isTrue e env (eval e env))
theorem SE.cast {α β:Type}{res:Res α}{kh:Res β}{e:Value}(h:∀m σ',res=.ct m σ'→kh=.ct m σ')(q:SE c A₀ A Γ₀ σ₀ s₀ res e s₁):SE c A₀ A Γ₀ σ₀ s₀ kh e s₁:=by
 induction q with|mk m σ' a0 ea _ h1 a b d e f=>?_
 exact ⟨m,σ',a0,ea,_,h _ _ h1,a,b,d,e,f⟩
theorem mK.Hz {α:Type}{res:Res α}{e:Value}(P:aA c A₀ A env L Γ₀ σ₀ s₀ Γ σ s)(q:mK c A Γ σ s res e s₁):SE c A₀ A Γ₀ σ₀ s₀ res e s₁:=by
 induction q with|mk m σ' h1 a0 ea _ h3 h4 h5 h6=>?_
 exact ⟨m,σ',a0,ea,_,h1,P.same.trans h3,h4,Step.inner P.fh P.step P.sub P.new h5,P.fr.step h5,h6.back P.step.alive⟩
theorem iG {α β γ:Type}{R:Heap→Gh→Sg→Heap→α→γ→Prop}{m:M α}{f:α→M β}{X:Sem γ}{K:γ→Shared→Prop}(P:aA c A₀ A env L Γ₀ σ₀ s₀ Γ σ s)(ne:(m>>=f) σ≠.stuck)
  (hX:aC prog c A (cg c s₀.heap (ai A) env L) R m X)
  (k:∀a aa af b s₁,m σ=.ok a aa→aA c A₀ A env L Γ₀ σ₀ s₀ af aa s₁→Step (ai A) Γ σ s.heap af aa s₁.heap→R s.heap af aa s₁.heap a b→f a aa≠.stuck→((m>>=f) σ=f a aa)→K b s₁):
  wpAny (model prog c.w) A X K (SE c A₀ A Γ₀ σ₀ s₀ ((m>>=f) σ)) s:=
 wpAny_mono (seq P.pre ne hX fun a aa af b s₁ e y1 y3 ao r ne' e'=>k a aa af b s₁ e (P.next y1 ao.st y3) y3 r ne' e') (fun _ _ q=>q) fun e s' q=>q.Hz P
theorem aA.freeze {x:Str}{t:T}{k:Kd}{pre post:List (Str×T×Kd)}{loc:Str→Option T}(P:aA c A₀ A env {L with loc:=loc,own:=pre++(x,t,k)::post} Γ₀ σ₀ s₀ Γ σ s):
  ∃a0,aA c A₀ A env {L with loc:=upd loc x t,own:=pre++post} Γ₀ σ₀ s₀ a0 σ s∧Γ.Le a0:=by
 obtain ⟨m,e4,e5,e6,f,o,ap,nd,new⟩:=P.cX.bound;have hx:(x,t,k)∈pre++(x,t,k)::post:=List.mem_append_right _ (.head _);obtain ⟨v,b,q⟩:=o _ hx;obtain ⟨a0,le,S',r',lo,st⟩:=q.freeze P.st;have sub:∀p∈pre++post,p∈pre++(x,t,k)::post:=fun p hp=>(List.mem_append.mp hp).elim (List.mem_append_left _) fun h=>List.mem_append_right _ (.tail _ h)
 have nx:∀p∈pre++post,p.1≠x:=fun p hp q=>by
  have nd:((pre++(x,t,k)::post).map (·.1)).Nodup:=nd;rw [List.map_append,List.map_cons,List.nodup_append] at nd;obtain ⟨n1,n2,n3⟩:=nd;rcases List.mem_append.mp hp with h|h
  ·exact n3 p.1 (List.mem_map_of_mem h) x (.head _) q
  ·exact (List.nodup_cons.mp n2).1 (List.mem_map.mpr ⟨p,h,q⟩)
 have C:mQ Γ a0 s.heap s.heap (·∈f x):=⟨le,fun _ _ _ e=>e,lo⟩
 have nc:∀y ca,env.cells.lookup y=some ca→ca∉f x:=fun y ca e=>by
  obtain ⟨_,_,w,c3⟩:=P.cells y ca e;exact q.mP c3
 refine ⟨a0,P.re (.refl s) S' (C.DN (fun b hb=>q.je hb) P.fr) (st _ _ _ _ (new _ hx) P.step) (fun y ca e=>C.uU (nc y ca e) (P.cells y ca e)) ⟨m,e4,lo _ (q.je P.inf) e5,fun y t' hy=>?_,f,fun p hp=>C.DM nc (ap p (sub p hp) _ hx (nx p hp)) (o p (sub p hp)),fun p hp q hq=>ap p (sub p hp) q (sub q hq),?_,fun p hp=>new p (sub p hp)⟩,le⟩
 ·have hy:(if y=x then some t else loc y)=some t':=hy;by_cases h:y=x
  ·subst h;rw [if_pos rfl] at hy;induction Option.some.inj hy;exact ⟨v,C.Jc nc b,r'⟩
  ·rw [if_neg h] at hy;exact (e6 y t' hy).turn le fun _=>C.Jc nc
 ·refine List.Sublist.nodup ?_ nd;dsimp only;rw [List.map_append,List.map_append,List.map_cons];exact List.Sublist.append_left (List.sublist_cons_self _ _) _
theorem aA.bE {e:Expr}:∀{o pre:List (Str×T×Kd)} {loc:Str→Option T} {Γ:Gh},aA c A₀ A env {L with loc:=loc,own:=pre++o} Γ₀ σ₀ s₀ Γ σ s→
  ∃a0,aA c A₀ A env {L with loc:=(bE e o loc).1,own:=pre++(bE e o loc).2} Γ₀ σ₀ s₀ a0 σ s∧Γ.Le a0
 |[],pre,loc,Γ,P=>⟨Γ,P,.refl Γ⟩
 |(x,t,k)::r,pre,loc,Γ,P=>by
  have P':aA c A₀ A env {L with loc:=loc,own:=(pre++[(x,t,k)])++r} Γ₀ σ₀ s₀ Γ σ s:=by rw [List.append_assoc];exact P
  obtain ⟨af,ao,le⟩:=aA.bE (e:=e) P';rw [List.append_assoc] at ao;by_cases q:ej x e=true
  ·rw [show Internal.bE e ((x,t,k)::r) loc=_ from if_pos q];obtain ⟨aj,aU,Qc⟩:=aA.freeze ao;exact ⟨aj,aU,le.trans Qc⟩
  ·rw [show Internal.bE e ((x,t,k)::r) loc=_ from if_neg q];exact ⟨af,ao,le⟩
theorem aA.settle (e:Expr)(P:aA c A₀ A env L Γ₀ σ₀ s₀ Γ σ s):∃a0,aA c A₀ A env (settle e L) Γ₀ σ₀ s₀ a0 σ s∧Γ.Le a0:=by
 obtain ⟨loc,own,mv,cS⟩:=L
 induction own with
 |nil=>exact ⟨Γ,P,.refl Γ⟩
 |cons p o=>exact aA.bE (L:=⟨loc,p::o,mv,cS⟩) (pre:=[]) P
end
section
variable {c:Cx}{A₀ A:Around}{Γ₀ Γ af:Gh}{σ₀ σ aa:Sg}{h₀ h h' h₁:Heap}{a:Addr}
theorem dW.turn (F:dW A Γ h)(n:a∉ai A)(sb:Heap.SameBut a h h'):dW A Γ h':=
 mQ.DN (X:=(·=a)) ⟨.refl _,fun b o n e=>(sb.2 b n).trans e,fun _ _ l=>l⟩ (fun b hb q=>n (q▸hb)) F
theorem dW.slots {S:List Addr}(F:dW A Γ h)(sl:Heap.SlotsOnly S h h'):dW A Γ h':=by
 obtain ⟨⟨l,hl,hF⟩,hh⟩:=F;refine ⟨⟨l,hl,fun e he=>?_⟩,hh⟩;obtain ⟨h1,F,o,h2,h3,h4,h5⟩:=hF e he;obtain ⟨s',e'⟩:=sl.2.2 F o h3;exact ⟨h1,F,_,h2,e',h4,h5⟩
structure XB (c:Cx) (A₀ A:Around) (Γ₀:Gh) (σ₀:Sg) (h₀:Heap) (Γ:Gh) (σ:Sg) (h:Heap):Prop where
 fh:St c Γ₀ σ₀ h₀
 st:St c Γ σ h
 step:Step (ai A₀) Γ₀ σ₀ h₀ Γ σ h
 fr:dW A Γ h
 sub:∀b∈ai A₀,b∈ai A
 new:∀b∈ai A,b∈ai A₀∨h₀.get? b=none
theorem XB.turn (X:XB c A₀ A Γ₀ σ₀ h₀ Γ σ h)(l:Loose Γ a)(n:h₀.get? a=none)(na:a∉ai A)(sb:Heap.SameBut a h h'):XB c A₀ A Γ₀ σ₀ h₀ Γ σ h':=
 have W:=dC X.st X.step n l sb
 ⟨X.fh,W.S,W.x,X.fr.turn na sb,X.sub,X.new⟩
theorem XB.grow (X:XB c A₀ A Γ₀ σ₀ h₀ Γ σ h)(k:∀b o,h.get? b=some o→h'.get? b=some o):XB c A₀ A Γ₀ σ₀ h₀ Γ σ h':=
 ⟨X.fh,X.st.keeps k,Step.trans X.fh X.step (Step.keeps k X.st),X.fr.step (Step.keeps k X.st:Step (ai A) Γ σ h Γ σ h'),X.sub,X.new⟩
theorem XB.slots {S:List Addr}(X:XB c A₀ A Γ₀ σ₀ h₀ Γ σ h)(hS:∀b∈S,b∈ai A)(sl:Heap.SlotsOnly S h h'):XB c A₀ A Γ₀ σ₀ h₀ Γ σ h':=by
 have lo:∀{b},b∈S→Loose Γ b:=fun hb=>by obtain ⟨_,_,_,l⟩:=X.fr.alive (hS _ hb);exact l
 exact ⟨X.fh,X.st.only fun b o n e=>(sl.2.1 b fun q=>n (lo q)).trans e,X.step.only (fun b o e hf=>sl.2.1 b fun q=>(X.new b (hS b q)).elim hf fun q=>(by exact bR (q.symm.trans e))) (fun b DB o e e'=>sl.2.2 b o e') (fun b m=>sl.2.1 b fun q=>(lo q).m m),X.fr.slots sl,X.sub,X.new⟩
inductive JY (fr:List Addr) (pre:Heap) (G:Gh) (h:Heap) (e:Addr) (vs:Array Value):Option Value→Prop
 |none (q:vs[1]?=some .none):JY fr pre G h e vs none
 |at_ (T:Addr) (oT:Obj) (ts:Array Value) (x:Value) (q:vs[1]?=some (.ref T)) (ne:T≠e) (g:h.get? T=some oT) (d:oT.data=.fields ts) (q':ts[3]?=some x) (l:Loose G T) (f:T∉fr) (n:pre.get? T=none):JY fr pre G h e vs (some x)
inductive jY (c:Cx) (A:Around) (pre:Heap) (G:Gh) (h:Heap) (e:Addr) (m:Str) (fl:Option Value):Prop
 |mk (oe:Obj) (de:Addr) (vs:Array Value) (t t':Tok) (n:Nat) (g:h.get? e=some oe) (cl:oe.cls=.ref c.exc) (di:oe.dict=some de) (da:oe.data=.fields vs) (gd:G.obj de=some (aB [⟨c.H "message",.str "message" t,.str m t'⟩] n)) (l:Loose G e) (f:e∉ai A)
   (pn:pre.get? e=none) (q:JY (ai A) pre G h e vs fl):jY c A pre G h e m fl
theorem jY.at {pre:Heap}{e:Addr}{m:Str}{fl:Option Value}(x:jY c A pre Γ h e m fl):mH c (ai A) pre Γ h e m:=by
 obtain ⟨oe,de,vs,t,t',n,a1,a2,a3,a4,a5,a6,a7,a8,a9⟩:=x;refine ⟨oe,de,vs,t,t',n,a1,a2,a3,a4,a5,a6,a7,a8,?_⟩
 induction a9 with
 |none q=>exact .none q
 |at_ T oT ts x b1 b2 b3 b4 b5 b6 b7 b8=>exact .at_ T oT ts x b1 b2 b3 b4 b5 b6 b7 b8
theorem mH.t {pre:Heap}{e:Addr}{m:Str}(x:mH c (ai A) pre Γ h e m):∃fl,jY c A pre Γ h e m fl:=by
 obtain ⟨oe,de,vs,t,t',n,a1,a2,a3,a4,a5,a6,a7,a8,a9⟩:=x
 induction a9 with
 |none q=>exact ⟨_,oe,de,vs,t,t',n,a1,a2,a3,a4,a5,a6,a7,a8,.none q⟩
 |at_ T oT ts x b1 b2 b3 b4 b5 b6 b7 b8=>exact ⟨_,oe,de,vs,t,t',n,a1,a2,a3,a4,a5,a6,a7,a8,.at_ T oT ts x b1 b2 b3 b4 b5 b6 b7 b8⟩
end
section
variable {prog:Program}{c:Cx}{A₀ A:Around}{Γ₀ Γ:Gh}{σ₀ σ:Sg}{h₀:Heap}{s:Shared}{e:Addr}{m:Str}{fl:Option Value}{env:PySem.Env}{outer:List PySem.Env}{E:Value→Shared→Prop}
theorem nR {h base:Heap}:∀{l:List PySem.Env},(∀e∈l,G6 Γ h e)→(∀e∈l,∀F,e.frame=some F→base.get? F=none)→h.FunFrames base l
 |[],_,_=>trivial
 |e::r,hF,hb=>by
  obtain ⟨h1,F,o,h2,h3,h4,h5⟩:=hF e (.head _);exact ⟨h1,⟨F,o,h2,hb e (.head _) F h2,h3,h4⟩,nR (fun x hx=>hF x (.tail _ hx)) (fun x hx=>hb x (.tail _ hx))⟩
theorem uW {h:Heap}(F:dW A Γ h)(base:Heap)(hb:∀b∈ai A,base.get? b=none){l:List PySem.Env}(hl:A.frames=some l):h.FunFrames base l:=by
 obtain ⟨⟨l',HA,hF⟩,_⟩:=F;induction Option.some.inj (hl.symm.trans HA);exact nR hF fun e he F hf=>hb F (by unfold ai;rw [hl];exact List.mem_filterMap.mpr ⟨e,he,hf⟩)
theorem AJ {T:Addr}:(Value.ref T != Value.none)=true:=rfl
theorem jY.OM {h:Heap}{T:Addr}{oT oe:Obj}{ts vs:Array Value}{x y:Value}{de:Addr}{t t':Tok}{n:Nat}(g:h.get? e=some oe)(cl:oe.cls=.ref c.exc)(di:oe.dict=some de)(da:oe.data=.fields vs)(gd:Γ.obj de=some (aB [⟨c.H "message",.str "message" t,.str m t'⟩] n))(l:Loose Γ e)(f:e∉ai A)
  (pn:h₀.get? e=none) (q:vs[1]?=some (.ref T)) (ne:T≠e) (gT:h.get? T=some oT) (d:oT.data=.fields ts) (q':ts[3]?=some x) (lT:Loose Γ T) (fT:T∉ai A) (nT:h₀.get? T=none):
  jY c A h₀ Γ (h.update T (Obj.mapFields (·.setIfInBounds 3 y))) e m (some y):=
 have h3:3 < ts.size:=(Array.getElem?_eq_some_iff.mp q').1
 ⟨oe,de,vs,t,t',n,(Heap.get?_update_other _ _ ne).trans g,cl,di,da,gd,l,f,pn,.at_ T _ _ y q ne (Heap.get?_update_self _ gT (Obj.isFreed_of_fields (Obj.data_mapFields d _))) (Obj.data_mapFields d _) (Array.getElem?_setIfInBounds_self_of_lt h3) lT fT nT⟩
theorem fm {A':Around}{f:Option Addr}{x:Value}{Q:Unit→Shared→Prop}(X:XB c A₀ A Γ₀ σ₀ h₀ Γ σ s.heap)(T:jY c A h₀ Γ s.heap e m (some x))
  (h:∀h',XB c A₀ A Γ₀ σ₀ h₀ Γ σ h'→jY c A h₀ Γ h' e m (some (f.elim Value.none fun f=>rawInt f))→Q () {s with heap:=h'}):wpAny (model prog c.w) A' (setFlight (.ref e) f) Q E s:=by
 obtain ⟨oe,de,vs,t,t',n,a1,a2,a3,a4,a5,a6,a7,a8,q⟩:=T
 cases q with
 |at_ T oT ts x b1 b2 b3 b4 b5 b6 b7 b8=>
 skip
 refine wpAny_bind (wpAny_field a1 a4 b1 ?_);rw [if_pos AJ];exact wpAny_setField b3 b4 (Array.getElem?_eq_some_iff.mp b5).1 (h _ (X.turn b6 b8 b7 (.update ..)) (jY.OM a1 a2 a3 a4 a5 a6 a7 a8 b1 b2 b3 b4 b5 b6 b7 b8))
theorem JY.size {fr:List Addr}{pre h:Heap}{vs:Array Value}(x:JY fr pre Γ h e vs fl):1 < vs.size:=by
 induction x with
 |none q=>exact (Array.getElem?_eq_some_iff.mp q).1
 |at_ T oT ts x q=>exact (Array.getElem?_eq_some_iff.mp q).1
theorem nS {o:Obj}{f:Array Value→Array Value}:(Obj.mapFields f o).dict=o.dict:=by obtain ⟨_,_,d,_⟩:=o;cases d<;>rfl
noncomputable abbrev w7 (head:Value)(L:Addr)(pl:List Value):Obj:={cls:=.type "traceback",dict:=none,data:=.fields ([head,.ref L,.none,rawInt L,.none]++(if pl.isEmpty then List.replicate 6 Value.none else pl)).toArray}
theorem yl {h:Heap}{L:Addr}{head:Value}{pl:List Value}(X:XB c A₀ A Γ₀ σ₀ h₀ Γ σ h)(T:jY c A h₀ Γ h e m fl)(h3:([head,.ref L,.none,rawInt L,.none]++(if pl.isEmpty then List.replicate 6 Value.none else pl)).toArray[3]?=some (rawInt L)):
  XB c A₀ A Γ₀ σ₀ h₀ Γ σ ((h.push (w7 head L pl)).update e (Obj.mapFields (·.setIfInBounds 1 (.ref h.objs.size))))∧jY c A h₀ Γ ((h.push (w7 head L pl)).update e (Obj.mapFields (·.setIfInBounds 1 (.ref h.objs.size)))) e m (some (rawInt L)):=by
 have uX:=X.grow (h':=h.push (w7 head L pl)) (fun b o e=>Heap.get?_push_of_some _ e);have MT:h.get? h.objs.size=none:=bp _;obtain ⟨oe,de,vs,t,t',n,a1,a2,a3,a4,a5,a6,a7,a8,a9⟩:=T;have JZ:=Heap.get?_push_of_some (h:=h) (w7 head L pl) a1;have ON:h.objs.size≠e:=Nat.ne_of_gt (Heap.lt_size a1)
 exact ⟨uX.turn a6 a8 a7 (.update ..),_,de,_,t,t',n,Heap.get?_update_self _ JZ (Obj.isFreed_of_fields (Obj.data_mapFields a4 _)),(Obj.cls_mapFields _ _).trans a2,nS.trans a3,Obj.data_mapFields a4 _,a5,a6,a7,a8,
  .at_ h.objs.size _ _ _ (Array.getElem?_setIfInBounds_self_of_lt a9.size) ON ((Heap.get?_update_other _ _ (Ne.symm ON)).trans (Heap.get?_push_size h rfl)) rfl h3 (X.st.loose MT) (X.fr.fresh MT) (dn (X.step.alive _) MT)⟩
theorem jY.HB {S:List Addr}{h h':Heap}(T:jY c A h₀ Γ h e m fl)(hS:∀b∈S,b∈ai A)(sl:Heap.SlotsOnly S h h'):jY c A h₀ Γ h' e m fl:=by
 obtain ⟨oe,de,vs,t,t',n,a1,a2,a3,a4,a5,a6,a7,a8,a9⟩:=T;refine ⟨oe,de,vs,t,t',n,(sl.2.1 e fun q=>a7 (hS e q)).trans a1,a2,a3,a4,a5,a6,a7,a8,?_⟩
 induction a9 with
 |none q=>exact .none q
 |at_ T oT ts x b1 b2 b3 b4 b5 b6 b7 b8=>exact .at_ T oT ts x b1 b2 ((sl.2.1 T fun q=>b7 (hS T q)).trans b3) b4 b5 b6 b7 b8
theorem sN {L:Addr}{head:Value}{DR:Bool}{Q:Unit→Shared→Prop}(X:XB c A₀ A Γ₀ σ₀ h₀ Γ σ s.heap)(T:jY c A h₀ Γ s.heap e m fl)(zD:A.frames=some (env::outer))(hf:env.frame=some L)
  (h:∀h',XB c A₀ A Γ₀ σ₀ h₀ Γ σ h'→jY c A h₀ Γ h' e m (some (rawInt L))→Q () {s with heap:=h'}):
  wpAny (model prog c.w) A (do let a ←frameOf env;let pl ←entryPlaceOf L DR;let b ←EntryCells.newEntry head a .none (rawInt L) .none pl;setField (.ref e) 1 b) Q E s:=by
 have hF:=uW X.fr ({objs:=#[]}:Heap) (fun b _=>by simp [Heap.get?]) zD;refine wpAny_bind (wpAny_frameOf_fun zD hF hf fun h₁ Gj=>?_);have hS:∀b∈(env::outer).filterMap (·.frame),b∈ai A:=fun b hb=>by unfold ai;rw [zD];exact hb
 have sO:=X.slots hS Gj;have ym:=T.HB hS Gj;refine wpAny_bind (wpAny_entryPlaceOf fun pl Qd=>?_)
 skip
 refine wpAny_bind (wpAny_newObj_type ?_ (Qd.sizeOk5 _ _ _ _ _));refine (yl (head:=head) (L:=L) (pl:=pl) sO ym rfl).elim fun uX AK=>?_
 obtain ⟨oe,de,vs,t,t',n,a1,a2,a3,a4,a5,a6,a7,a8,a9⟩:=ym;exact wpAny_setField (Heap.get?_push_of_some _ a1) a4 a9.size (h _ uX AK)
theorem qT {L:Addr}{Q:Unit→Shared→Prop}(X:XB c A₀ A Γ₀ σ₀ h₀ Γ σ s.heap)(T:jY c A h₀ Γ s.heap e m fl)(zD:A.frames=some (env::outer))(hf:env.frame=some L)
  (h:∀h',XB c A₀ A Γ₀ σ₀ h₀ Γ σ h'→jY c A h₀ Γ h' e m (some (rawInt L))→Q () {s with heap:=h'}):wpAny (model prog c.w) A (noteFrame (.ref e) env) Q E s:=by
 have T':=T;obtain ⟨oe,de,vs,t,t',n,a1,a2,a3,a4,a5,a6,a7,a8,a9⟩:=T;unfold noteFrame;simp only [hf]
 induction a9 with
 |none a9=>
  refine wpAny_bind (wpAny_field a1 a4 a9 ?_);rw [if_neg (by decide)];exact sN X T' zD hf h
 |at_ T oT ts x b1 b2 b3 b4 b5 b6 b7 b8=>
  refine wpAny_bind (wpAny_field a1 a4 b1 ?_);rw [if_pos AJ];refine wpAny_bind (wpAny_field b3 b4 b5 ?_);by_cases hx:(x == rawInt L)=true
  ·rw [if_pos hx];exact wpAny_pure (h s.heap X (LawfulBEq.eq_of_beq hx▸T'))
  ·rw [if_neg hx];refine wpAny_bind (wpAny_setField b3 b4 (Array.getElem?_eq_some_iff.mp b5).1 ?_);exact sN (s:={s with heap:=_}) (fl:=some .none) (X.turn b6 b8 b7 (.update ..)) (jY.OM a1 a2 a3 a4 a5 a6 a7 a8 b1 b2 b3 b4 b5 b6 b7 b8) zD hf h
theorem sP {L:Addr}{Q:Unit→Shared→Prop}(X:XB c A₀ A Γ₀ σ₀ h₀ Γ σ s.heap)(T:jY c A h₀ Γ s.heap e m fl)(zD:A.frames=some (env::outer))(hf:env.frame=some L)
  (h:∀h',XB c A₀ A Γ₀ σ₀ h₀ Γ σ h'→jY c A h₀ Γ h' e m (some .none)→Q () {s with heap:=h'}):wpAny (model prog c.w) A (leaving env (.ref e)) Q E s:=by
 skip
 exact wpAny_bind (qT X T zD hf fun h' X' T'=>fm (s:={s with heap:=h'}) X' T' h)
theorem DT {x:Value}{Q:Unit→Shared→Prop}{f:Option Addr}{msg:String}(X:XB c A₀ A Γ₀ σ₀ h₀ Γ σ s.heap)(T:jY c A h₀ Γ s.heap e m (some x))
  (h:∀h' y,XB c A₀ A Γ₀ σ₀ h₀ Γ σ h'→jY c A h₀ Γ h' e m (some y)→Q () {s with heap:=h'}):wpAny (model prog c.w) A (do
  if (←field (.ref e) 1) == .none then unsupported msg
  setFlight (.ref e) f) Q E s:=by
 have T':=T;obtain ⟨oe,de,vs,t,t',n,a1,a2,a3,a4,a5,a6,a7,a8,q⟩:=T
 cases q with
 |at_ T oT ts x b1=>
 refine wpAny_bind (wpAny_field a1 a4 b1 ?_);rw [if_neg (show ¬((Value.ref T == Value.none)=true) from fun q=>nomatch q)];exact fm X T' fun h' X' MU=>h h' _ X' MU
theorem aA.xb {env:PySem.Env}{L:Ev}{s₀:Shared}{af:Gh}{aa:Sg}{h:Heap}(P:aA c A₀ A env L Γ₀ σ₀ s₀ Γ σ s)(S:St c af aa h)(x:Step (ai A₀) Γ₀ σ₀ s₀.heap af aa h)(F:dW A af h):XB c A₀ A Γ₀ σ₀ s₀.heap af aa h:=
 ⟨P.fh,S,x,F,P.sub,P.new⟩
theorem b0.heap {s s':Shared}(x:b0 s s')(h:Heap):b0 s {s' with heap:=h}:=x.trans ⟨h,s'.toks⟩
theorem SE.passes {L:Ev}{s₀:Shared}{α:Type}{res:Res α}(P:aA c A₀ A env L Γ₀ σ₀ s₀ Γ σ s):PassesOwn (model prog c.w) A env (SE c A₀ A Γ₀ σ₀ s₀ res):=by
 intro e s' q;obtain ⟨m,σ',a0,ea,_,h1,sm,S,x,F,ex⟩:=q;obtain ⟨outer,ho⟩:=P.top;obtain ⟨fl,ex⟩:=ex.t;exact qT (P.xb S x F) ex ho P.frame fun h' X' T'=>DT (s:={s' with heap:=h'}) X' T' fun Jb y MV MU=>⟨m,σ',a0,ea,_,h1,sm.heap Jb,MV.st,MV.step,MV.fr,MU.at⟩
theorem mH.less {fr kg:List Addr}{pre:Heap}{G:Gh}{h:Heap}{e:Addr}{m:Str}(x:mH c fr pre G h e m)(sub:∀b∈kg,b∈fr):mH c kg pre G h e m:=by
 obtain ⟨oe,de,vs,t,t',n,a1,a2,a3,a4,a5,a6,a7,a8,a9⟩:=x;refine ⟨oe,de,vs,t,t',n,a1,a2,a3,a4,a5,a6,fun q=>a7 (sub _ q),a8,?_⟩
 induction a9 with
 |none q=>exact .none q
 |at_ T oT ts x b1 b2 b3 b4 b5 b6 b7 b8=>exact .at_ T oT ts x b1 b2 b3 b4 b5 b6 (fun q=>b7 (sub _ q)) b8
theorem SE.HC {L:Ev}{s₀:Shared}{α:Type}{res:Res α}(P:aA c A₀ A env L Γ₀ σ₀ s₀ Γ σ s){e:Value}{s':Shared}(q:SE c A₀ A Γ₀ σ₀ s₀ res e s'){E:Value→Shared→Prop}:
  wpAny (model prog c.w) A (leaving env e) (fun _ MW=>mK c A₀ Γ₀ σ₀ s₀ res e MW) E s':=by
 induction q with|mk m σ' a0 ea _ h1 sm S x F ex=>?_
 obtain ⟨outer,ho⟩:=P.top;obtain ⟨fl,ex⟩:=ex.t;exact sP (P.xb S x F) ex ho P.frame fun h' X' T'=>⟨m,σ',h1,a0,ea,_,sm.heap h',X'.st,X'.step,T'.at.less P.sub⟩
end
end Mine.Internal
end
section
end
section
namespace Mine.Internal
open PySem PySem.W PyProof.Rows PySem.SeqAt
inductive Src (Γ:Gh) (σ:Sg) (k:Kd) (b:Addr) (o:Obj) (h:Heap):Prop
 |fix (e:Γ.obj b=some o):Src Γ σ k b o h
 |Gk (hk:k=.h) (m:Γ.moves b) (r:Γ.row≠some b) (t:b≠Γ.tab) (v:aM) (hs:σ.self=some v) (e:h.get? b=some o):Src Γ σ k b o h
section
variable {prog:Program}{c:Cx}{A:Around}{I:Inv (ai A)}{Γ af:Gh}{σ aa:Sg}{s:Shared}{h h₁ h':Heap}{k:Kd}{b it a:Addr}{o:Obj}{fr:List Addr}{E:Value→Shared→Prop}
theorem Src.get (S:St c Γ σ h)(x:Src Γ σ k b o h):h.get? b=some o:=by
 induction x with
 |fix x=>exact S.obj _ _ x
 |Gk _ _ _ _ _ _ e=>exact e
theorem Src.step (x:Src Γ σ k b o h)(y:Step fr Γ σ h af aa h₁)(ep:k=.h→aa.self.map (·.ep)=σ.self.map (·.ep)):Src af aa k b o h₁:=by
 induction x with
 |fix x=>exact .fix (y.le.obj _ _ x)
 |Gk x1 x2 x3 x4 v x5 x6=>
  obtain ⟨v',e1,_⟩:=y.mono v x5;obtain ⟨_,q2⟩:=y.ba v v' x5 e1 (Option.some.inj ((congrArg (Option.map aM.ep) e1).symm.trans ((ep x1).trans (congrArg _ x5))));exact .Gk x1 (y.le.moves _ x2) (fun q=>(y.eX _ q).elim x3 fun q=>by exact bR (q.symm.trans x6)) (fun q=>x4 (q.trans y.le.tab)) v' e1 ((q2 b x2 x3 x4).trans x6)
theorem Src.ne (x:Src Γ σ k b o h)(l:Loose Γ a):b≠a:=by
 rintro rfl
 induction x with
 |fix x=>exact bR (l.o.symm.trans x)
 |Gk _ m=>exact l.m m
theorem Src.kept (x:Src Γ σ k b o h)(kp:h.get? b=some o→h'.get? b=some o):Src Γ σ k b o h':=by
 induction x with
 |fix x=>exact .fix x
 |Gk x1 x2 x3 x4 v x5 x6=>exact .Gk x1 x2 x3 x4 v x5 (kp x6)
theorem Src.turn (x:Src Γ σ k b o h)(l:Loose Γ a)(kp:∀b o,b≠a→h.get? b=some o→h'.get? b=some o):Src Γ σ k b o h':=x.kept (kp _ _ (x.ne l))
def w8 (Γ:Gh)(σ:Sg)(k:Kd)(it:Addr)(h:Heap)(b:Addr):Prop:=b=it∨∃o,Src Γ σ k b o h
theorem w8.imp (x:w8 Γ σ k it h b)(f:∀o,Src Γ σ k b o h→Src af aa k b o h₁):w8 af aa k it h₁ b:=Or.imp id (fun ⟨o,r⟩=>⟨o,f o r⟩) x
inductive pN (c:Cx) (Γ:Gh) (v:Value):Option T→Prop
 |mk (t:T) (r:Rep c Γ t v):pN c Γ v (some t)
theorem pN.mono {v:Value}{x:Option T}(y:pN c Γ v x)(l:Γ.Le af):pN c af v x:=by
 induction y with|mk t r=>?_;exact ⟨t,Rep.mono l _ _ r⟩
inductive cP (prog:Program) (c:Cx) (A:Around) (k:Kd) (it:Addr) (rest:List T) (Γ:Gh) (σ:Sg) (h:Heap):Prop
 |mk (fp:List Addr) (n:Nat) (P:Nat→Value→Prop) (S:Nat→Heap→Prop) (i:Nat) (W:Walks prog c.w A it fp [it] n P S) (q:S i h) (hn:n=i+rest.length) (hf:∀b∈fp,w8 Γ σ k it h b)
   (hv:∀j v,j < rest.length→P (i+j) v→pN c Γ v rest[j]?) (ha:∀j h',S j h'→∃o,h'.get? it=some o):cP prog c A k it rest Γ σ h
theorem cP.step {rest:List T}(S:St c Γ σ h)(uQ:St c af aa h₁)(x:cP prog c A k it rest Γ σ h)(y:Step (ai A) Γ σ h af aa h₁)(ep:k=.h→aa.self.map (·.ep)=σ.self.map (·.ep))(l:Loose Γ it)(nf:it∉ai A):cP prog c A k it rest af aa h₁:=by
 obtain ⟨fp,n,P,Q,i,W,q,hn,hf,hv,ha⟩:=x;refine ⟨fp,n,P,Q,i,W,W.frame _ _ _ q fun b hb o e=>?_,hn,fun b hb=>(hf b hb).imp fun o r=>r.step y ep,fun j v hj hp=>(hv j v hj hp).mono y.le,ha⟩;rcases hf b hb with rfl|⟨o',r⟩
 ·exact y.keep _ _ e l.m l.i nf
 ·induction cV e (r.get S);exact (r.step y ep).get uQ
theorem cP.turn {rest:List T}(x:cP prog c A k it rest Γ σ h)(l:Loose Γ a)(ne:it≠a)(kp:∀b o,b≠a→h.get? b=some o→h'.get? b=some o):cP prog c A k it rest Γ σ h':=by
 obtain ⟨fp,n,P,Q,i,W,q,hn,hf,hv,ha⟩:=x;exact ⟨fp,n,P,Q,i,W,W.frame _ _ _ q fun b hb o e=>kp _ _ ((hf b hb).elim (fun q=>q▸ne) fun ⟨o',r⟩=>r.ne l) e,hn,fun b hb=>(hf b hb).imp fun o r=>r.turn l kp,hv,ha⟩
theorem cP.item {t:T}{r:List T}{Q:Option Value→Shared→Prop}(x:cP prog c A k it (t::r) Γ σ s.heap)(l:Loose Γ it)
  (q:∀v h' tk,Rep c Γ t v→cP prog c A k it r Γ σ h'→(∀b o,b≠it→s.heap.get? b=some o→h'.get? b=some o)→Q (some v) {s with heap:=h',toks:=tk}):wpAny (model prog c.w) A (pyNext (.ref it)) Q E s:=by
 obtain ⟨fp,n,P,S,i,W,q',hn,hf,hv,ha⟩:=x;refine W.item i s Q E (hn▸Nat.lt_add_of_pos_right (Nat.succ_pos _)) q' fun v h' tk hp st kp=>?_
 have h1:=hv 0 v (Nat.succ_pos _) hp;have OO:∀b o,b≠it→s.heap.get? b=some o→h'.get? b=some o:=fun b o hb e=>kp b o (fun q=>hb (List.mem_singleton.mp q)) e
 cases h1 with
 |mk _ h2=>
 exact q v h' tk h2 ⟨fp,n,P,S,i+1,W,st,hn.trans (Nat.add_right_comm i r.length 1),fun b hb=>(hf b hb).imp fun o r=>r.turn l OO,fun j v hj hp=>hv (j+1) v (Nat.succ_lt_succ hj) ((Nat.add_right_comm i j 1:i+j+1=_)▸hp),ha⟩ OO
theorem cP.done {Q:Option Value→Shared→Prop}(x:cP prog c A k it [] Γ σ s.heap)
  (q:∀h' tk,(∀b o,b≠it→s.heap.get? b=some o→h'.get? b=some o)→Q none {s with heap:=h',toks:=tk}):wpAny (model prog c.w) A (pyNext (.ref it)) Q E s:=by
 obtain ⟨fp,n,P,S,i,W,q',hn,hf,hv,ha⟩:=x;subst hn;exact W.done s Q E q' fun h' tk kp=>q h' tk fun b o hb e=>kp b o (fun q=>hb (List.mem_singleton.mp q)) e
theorem cP.self {rest:List T}{Q:Value→Shared→Prop}(x:cP prog c A k it rest Γ σ s.heap)(q:Q (.ref it) s):wpAny (model prog c.w) A (pyIter (.ref it)) Q E s:=by
 obtain ⟨fp,n,P,S,i,W,q',_⟩:=x;exact W.self i s Q E q' q
theorem cP.alive {rest:List T}(x:cP prog c A k it rest Γ σ h):∃o,h.get? it=some o:=by
 obtain ⟨fp,n,P,S,i,W,q',hn,hf,hv,ha⟩:=x;exact ha _ _ q'
theorem uY {x y:Int}{j:Nat}(h:j < (y - x).toNat):((dz x y).map T.int)[j]?=some (.int (x+j)):=by
 unfold dz;rw [List.getElem?_map,List.getElem?_map,List.getElem?_range h];rfl
inductive nU:T→Option (List T)→Prop
 |tup (ts:List T):nU (.tup ts) (some ts)
 |list (ts:List T):nU (.list ts) (some ts)
 |dict (es:List (Str×T)):nU (.dict es) (some (es.map fun e=>.str e.1))
 |range (a b:Int) (h2:aO a=true) (h3:aO b=true) (h4:b - a≤aq):nU (.range a b) (some ((dz a b).map .int))
 |no (t:T):nU t none
theorem sQ (t:T):nU t (gB t):=by
 cases t with
 |tup ts=>exact .tup ts
 |list ts=>exact .list ts
 |dict es=>exact .dict es
 |range a b=>exact d3 (P:=nU (.range a b)) (fun h=>.range a b (band (band h).1).1 (band (band h).1).2 (of_decide_eq_true (band h).2)) (.no _)
 |_=>exact .no _
theorem qU {P:Addr→Prop}{a d:Addr}(h:P a)(h':P d):∀x∈[a,d],P x:=List.forall_mem_cons.mpr ⟨h,aY h'⟩
theorem pO {es:List (Str×T)}{d:Addr}{ds:List DictEntry}{n:Nat}{Q:Value→Shared→Prop}(P:Pre c A I Γ σ s)(nm:(d == sysModules)=false)(e:s.heap.get? d=some (aB ds n))(nd:(es.map (·.1)).Nodup)(rd:aW c Γ es ds)(src:Src Γ σ k d (aB ds n) s.heap)
  (q:∀o,cP prog c A k s.heap.objs.size (es.map fun e=>.str e.1) Γ σ (s.heap.push o)→Q (.ref s.heap.objs.size) {s with heap:=s.heap.push o}):wpAny (model prog c.w) A (pyIter (.ref d)) Q E s:=by
 have jf:d≠s.heap.objs.size:=Nat.ne_of_lt (Heap.lt_size e)
 have X:s.heap.DictAt (strKind prog c.w) d (kvsOf es ds) n:=⟨_,ds.toArray,e,⟨rfl,rfl,rfl⟩,rfl,fun e he=>by
  obtain ⟨k,t,e1,e2⟩:=rd.mem e (Array.mem_toList_iff.mpr he);exact ⟨k,by rw [e1];exact strKind_is prog c.w k t,e2⟩,ly rd,by rw [gH rd];exact nd⟩
 refine wpAny_pyIter_dict nm X (q _ ⟨_,_,_,_,0,Walks.dictKeys (knd:=strKind prog c.w) P.fr.handled s.heap.objs.size d jf (kvsOf es ds) n,⟨⟨_,Heap.get?_push_size _ rfl,rfl,rfl⟩,X.push _⟩,?_,qU (.inl rfl) (.inr ⟨_,src.kept fun e=>aL _ _ e⟩),?_,fun j h' q=>by obtain ⟨⟨o,q,_⟩,_⟩:=q;exact ⟨o,q⟩⟩)
 ·rw [List.length_map,dE rd,Nat.zero_add]
 ·rintro j v hj ⟨key,x,hx,hk⟩
  rw [Nat.zero_add] at hx;obtain ⟨tk,rfl⟩:=Value.isStrOf_shape hk;have e1:((kvsOf es ds).map (·.1))[j]?=some key:=by rw [List.getElem?_map,hx];rfl
  rw [gH rd,List.getElem?_map] at e1
  have e2:(es.map fun e=>T.str e.1)[j]?=some (.str key):=by
   rw [List.getElem?_map]
   induction hq:es[j]? with
   |none=>rw [hq] at e1;exact bR e1
   |some p=>rw [hq] at e1;induction Option.some.inj e1;rfl
  exact e2▸.mk _ Rep.str
theorem pP {ts:List T}{vs:List Value}{j:Nat}{v:Value}(h2:az c Γ ts vs)(hj:j < ts.length)(hx:vs.toArray[0+j]?=some v):pN c Γ v ts[j]?:=by
 rw [Nat.zero_add] at hx;have e:=List.getElem?_eq_getElem hj;obtain ⟨w,h3,h4⟩:=h2.get e;induction Option.some.inj (((List.getElem?_toArray ..).symm.trans hx).symm.trans h3);exact e▸.mk _ h4
theorem Rep.iter {t:T}{l:List T}{v:Value}{Q:Value→Shared→Prop}(P:Pre c A I Γ σ s)(r:Rep c Γ t v)(hl:gB t=some l)
  (q:∀o,cP prog c A k s.heap.objs.size l Γ σ (s.heap.push o)→Q (.ref s.heap.objs.size) {s with heap:=s.heap.push o}):wpAny (model prog c.w) A (pyIter v) Q E s:=by
 have S:=P.st;have hh:=P.fr.handled;have w:=sQ t;generalize gB t=o at w hl
 induction w with
 |no=>exact bR hl
 |tup ts=>
  cases hl;obtain ⟨a,vs,n,h1,z,h2⟩:=r.cu;have e:=S.obj _ _ h1;exact wpAny_pyIter_tuple (items:=vs.toArray) ⟨_,e,rfl,n,rfl⟩ (q _ ⟨_,_,_,_,0,Walks.tuple hh s.heap.objs.size a (Nat.ne_of_lt (Heap.lt_size e)) vs.toArray,⟨⟨_,Heap.get?_push_size _ rfl,rfl,rfl⟩,⟨_,aL _ _ e,rfl,n,rfl⟩⟩,h2.length.trans (Nat.zero_add _).symm,qU (.inl rfl) (.inr ⟨_,.fix h1⟩),fun j v hj hx=>pP h2 hj hx,fun j h' q=>by obtain ⟨⟨o,q,_⟩,_⟩:=q;exact ⟨o,q⟩⟩)
 |list ts=>
  cases hl;obtain ⟨a,vs,n,h1,z,h2⟩:=r.aX;have e:=S.obj _ _ h1;exact wpAny_pyIter_list (aD e) (q _ ⟨_,_,_,_,0,Walks.list hh s.heap.objs.size a (Nat.ne_of_lt (Heap.lt_size e)) vs.toArray,⟨⟨_,Heap.get?_push_size _ rfl,rfl,rfl⟩,aD (aL _ _ e)⟩,h2.length.trans (Nat.zero_add _).symm,qU (.inl rfl) (.inr ⟨_,.fix h1⟩),fun j v hj hx=>pP h2 hj hx,fun j h' q=>by obtain ⟨⟨o,q,_⟩,_⟩:=q;exact ⟨o,q⟩⟩)
 |dict es=>
  cases hl;induction r.cI with|mk d ds n nm h1 z nd h2=>?_
  exact pO P nm (S.obj _ _ h1) nd h2 (.fix h1) q
 |range x y h2 h3 h4=>
  cases hl;induction (show qE Γ x y v from r) with|mk r' t u w h1=>?_
  have HA:((dz x y).map T.int).length=(y - x).toNat:=(List.length_map _).trans nK;refine wpAny_pyIter_range (S.obj _ _ h1) (mr h2 h3) (q _ ⟨_,_,_,_,0,Walks.range hh s.heap.objs.size x 1 (y - x).toNat,?_,HA.symm.trans (Nat.zero_add _).symm,aY (.inl rfl),?_,fun j h' q=>⟨_,q⟩⟩)
  ·rw [lA];have e1:x+((0:Nat):Int) * 1=x:=(congrArg (x+·) (Int.zero_mul 1)).trans (Int.add_zero x);have e2:(((y - x).toNat:Nat):Int) - ((0:Nat):Int)=((y - x).toNat:Int):=Int.sub_zero _;rw [e1,e2];exact Heap.get?_push_size _ rfl
  ·rintro j v hj ⟨t,rfl⟩
   rw [uY (HA▸hj),Int.mul_one,Nat.zero_add];exact .mk _ Rep.int
theorem St.qV {D:Addr}{ds:List DictEntry}{n:Nat}(S:St c Γ σ h)(hd:h.get? D=some (aB ds n)):Γ.row≠some D∧D≠Γ.tab:=by
 constructor
 ·intro q
  induction hr:σ.row with
  |none=>exact bR ((S.row.no hr).symm.trans q)
  |some ns=>obtain ⟨r,vs,mm,a1,a2,a3,_⟩:=S.rowAt hr;induction Option.some.inj (a1.symm.trans q);exact nomatch congrArg Obj.data (cV hd a3)
 ·rintro rfl
  obtain ⟨_,_,ps,q1,_⟩:=S.tab;exact nomatch congrArg Obj.data (cV hd q1)
theorem qW {t:T}{l:List T}{v:Value}{pre:Heap}{Q:Value→Shared→Prop}(P:Pre c A I Γ σ s)(r:RF c pre Γ σ s.heap (t,k) v)(hl:gB t=some l)
  (q:∀o,cP prog c A k s.heap.objs.size l Γ σ (s.heap.push o)→Q (.ref s.heap.objs.size) {s with heap:=s.heap.push o}):wpAny (model prog c.w) A (pyIter v) Q E s:=by
 induction (show wQ c Γ σ s.heap (t,k) v from r) with
 |rep _ r=>exact Rep.iter P r hl q
 |h hk r=>
  obtain ⟨es,sv,a,d,ik,ii,ht,h1,h2,h3,h4,D,ds,n,h5,h6,h7,h8,_,h9,MX⟩:=r;subst ht;induction Option.some.inj hl;exact pO P h5 h8 h9 MX (.Gk hk h6 (P.st.qV h8).1 (P.st.qV h8).2 sv h1 h8) q
theorem sR {t:T}{l:List T}{v:Value}{pre:Heap}(P:Pre c A I Γ σ s)(r:RF c pre Γ σ s.heap (t,k) v)(hl:gB t=some l):l.length≤sizeLine:=by
 have lk:Look c Γ s.heap t v:=RF.look P.st r;have w:=sQ t;generalize gB t=o at w hl
 induction w with
 |no=>exact bR hl
 |tup ts=>cases hl;induction Rep.cu (show Rep c Γ (.tup _) v from lk) with|mk a vs n h1 z h2=>?_;exact h2.length▸z
 |list ts=>cases hl;induction (show eK s.heap.get? aG (az c Γ _) v from lk) with|mk a vs n h1 z h2=>?_;exact h2.length▸z
 |dict es=>cases hl;induction (show gE s.heap.get? (es.map (·.1)) (aW c Γ es) v from lk) with|mk a ds n _ h1 z _ h2=>?_;rw [List.length_map,←h2.length];exact z
 |range x y h2 h3 h4=>
  cases hl;rw [List.length_map,nK];exact dp (Int.toNat_le.mpr h4)
end
section
variable {prog:Program}{c:Cx}{A:Around}{I:Inv (ai A)}{Γ:Gh}{σ:Sg}{s:Shared}{env:PySem.Env}{L:Ev}{G:Calls}{α β:Type}
inductive Qt (c:Cx) (A:Around) (Γ:Gh) (σ:Sg) (s:Shared) (k:Kd) (R:Heap→Gh→Sg→Heap→α→β→Prop) (res:Res α) (b:β) (s':Shared):Prop
 |mk (a:α) (σ':Sg) (e:res=.ok a σ') (ep:k=.h→σ'.self.map (·.ep)=σ.self.map (·.ep)) (a0:Gh) (sm:b0 s s') (st:St c a0 σ' s'.heap) (sp:Step (ai A) Γ σ s.heap a0 σ' s'.heap) (r:R s.heap a0 σ' s'.heap a b):Qt c A Γ σ s k R res b s'
theorem AL {m:M α}{a:α}{σ':Sg}(e:m σ=.ok a σ'):j1 m σ=.ok a σ':=by unfold j1;rw [e]
theorem AM {m:M α}(e:m σ=.stuck):j1 m σ=.stuck:=by unfold j1;rw [e]
theorem AN {m:M α}{x:Str}{σ':Sg}(e:m σ=.ct x σ'):j1 m σ=.stuck:=by unfold j1;rw [e]
theorem AO {R:Heap→Gh→Sg→Heap→α→β→Prop}{k:Kd}{f:T→M α}{t:T}{X:Sem β}{E:Value→Shared→Prop}(h:aC prog c A I R (f t) X)(P:Pre c A I Γ σ s)(ne:quiet k f t σ≠.stuck)(hR:jJ R):
  wpAny (model prog c.w) A X (Qt c A Γ σ s k R (quiet k f t σ)) E s:=by
 refine wpAny_mono (h.ba (k:=k) hR Γ σ s P fun q=>ne (AM q)) (fun b s' q=>?_) fun e s' q=>?_
 ·obtain ⟨a,σ',e,a0,sm,st,sp,r⟩:=q;exact ⟨a,σ',AL e,iE e,a0,sm,st,sp,r⟩
 ·induction q with|mk m σ' e _=>?_
  exact absurd (AN e) ne
theorem pQ:∀es:List Expr,(forIn es false fun c r=>if r=true then do let ok ←PySem.isTrue c env (eval c env);pure (ForInStep.yield ok) else pure (ForInStep.yield r))=(pure false:Sem Bool)
 |[]=>rfl
 |e::es=>by rw [List.forIn_cons,if_neg Bool.false_ne_true,pure_bind];exact pQ es
theorem aC.tests {es:List Expr}(h:∀e∈es,aC prog c A I RB (bO G L e (ag G L e)) (PySem.isTrue e env (eval e env))):
  aC prog c A I RB (cE G L es) (forIn es true fun c r=>if r=true then do let ok ←PySem.isTrue c env (eval c env);pure (ForInStep.yield ok) else pure (ForInStep.yield r)):=by
 induction es with
 |nil=>exact fun Γ σ s P ne=>wpAny_pure (km P rfl rfl)
 |cons e es ih=>
  have ih:=ih fun e he=>h e (.tail _ he)
  have h:=h e (.head _);rw [List.forIn_cons,if_pos rfl]
  exact fun Γ σ s P ne=>wpAny_bind (wpAny_bind (seq (f:=fun b=>if b then cE G L es else pure false) P ne h fun a aa af v s₁ _ y1 y2 ao r ne1 e1=>by
   cases r;refine wpAny_pure ?_
   induction a with
   |true=>exact Wp.of e1 (cF fW P y1 y2 (ih _ _ _ ao ne1))
   |false=>
    show wpAny (model prog c.w) A (forIn es false _) _ _ _;rw [pQ];exact Wp.of e1 (cF fW P y1 y2 (wpAny_pure (km ao rfl rfl)))))
end
theorem jP {env:PySem.Env}:∀(ns:List (Str×NameKind)) (acc:List (Str×Addr)),(∀p∈ns,p.2=.free→∃ca,env.cells.lookup p.1=some ca)→
  ∃cl,(forIn ns acc fun (p:Str×NameKind) (cs:List (Str×Addr))=>(match p with|(name,kind)=>if (kind == NameKind.free)=true then do let a ←cellOf env name;pure (ForInStep.yield ((name,a)::cs)) else pure (ForInStep.yield cs):Sem _))=pure cl∧
   ∀y,((y,NameKind.free)∉ns→acc.lookup y=env.cells.lookup y)→cl.lookup y=env.cells.lookup y
 |[],acc,_=>⟨acc,rfl,fun y h=>h List.not_mem_nil⟩
 |(n,k)::ns,acc,hh=>by
  by_cases hk:(k == NameKind.free)=true
  ·cases (LawfulBEq.eq_of_beq hk:k=.free);obtain ⟨ca,Jd⟩:=hh (n,.free) (.head _) rfl;obtain ⟨cl,h1,h2⟩:=jP ns ((n,ca)::acc) fun p hp=>hh p (.tail _ hp)
   refine ⟨cl,?_,fun y hn=>h2 y fun q=>?_⟩
   ·rw [List.forIn_cons];have:cellOf env n=pure ca:=by unfold cellOf;rw [Jd]
    dsimp only;rw [if_pos hk,this];exact h1
   ·rw [List.lookup_cons];by_cases e:y=n
    ·rw [e,beq_self_eq_true];exact Jd.symm
    ·rw [beq_false_of_ne e];exact hn fun q'=>(List.mem_cons.mp q').elim (fun z=>e (congrArg Prod.fst z)) q
  ·obtain ⟨cl,h1,h2⟩:=jP ns acc fun p hp=>hh p (.tail _ hp)
   refine ⟨cl,?_,fun y hn=>h2 y fun q=>hn fun q'=>(List.mem_cons.mp q').elim (fun z=>hk (beq_iff_eq.mpr (congrArg Prod.snd z).symm)) q⟩;rw [List.forIn_cons];dsimp only;rw [if_neg hk];exact h1
theorem jQ {scope:Scope}{env:PySem.Env}(h:∀p∈scope.names,p.2=.free→∃ca,env.cells.lookup p.1=some ca):
  ∃cl,closureFor scope env=pure cl∧(∀y,(y,NameKind.free)∈scope.names→cl.lookup y=env.cells.lookup y):=by
 obtain ⟨cl,h1,h2⟩:=jP scope.names [] h;refine ⟨cl,?_,fun y hy=>h2 y fun q=>absurd hy q⟩;unfold closureFor;simp only [bind_pure];exact h1
structure bz (g fr:Str→Bool) (env:PySem.Env):Prop where
 glob:∀x,g x=true→env.kindOf x=some .globalImplicit
 cell:∀x,fr x=true→(env.kindOf x=some .cell∨env.kindOf x=some .free)∧∃ca,env.cells.lookup x=some ca
noncomputable def aP (sc:Scope)(k:NameKind)(x:Str):Bool:=sc.names.lookup x == some k
noncomputable def J0 (fr:Str→Bool)(sc:Scope)(x:Str):Bool:=
 (sc.kind == .function&&decide ((sc.names.map (·.1)).Nodup))&&(sc.names.all (fun p=>!(p.2 == .cell)&&(!(p.2 == .free)||fr p.1))&&aP sc .local x)
theorem eG {β:Type}{k:Str}{v:β}:∀{l:List (Str×β)},(l.map (·.1)).Nodup→(k,v)∈l→l.lookup k=some v
 |[],_,h=>nomatch h
 |(k',v')::l,nd,h=>by
  refine (List.nodup_cons.mp nd).elim fun n1 n2=>?_
  rw [List.lookup_cons];rcases List.mem_cons.mp h with h1|h1
  ·cases h1;rw [beq_self_eq_true]
  ·rw [beq_false_of_ne fun e:k=k'=>n1 (e▸List.mem_map.mpr ⟨_,h1,rfl⟩)];exact eG n2 h1
theorem iH {β γ:Type}(f:Str→β→γ)(y:Str):∀(l:List (Str×β)),(l.map fun p=>(p.1,f p.1 p.2)).lookup y=(l.lookup y).map (f y)
 |[]=>rfl
 |(k,v)::l=>by
  rw [List.map_cons,List.lookup_cons,List.lookup_cons];by_cases h:y=k
  ·subst h;rw [beq_self_eq_true];rfl
  ·rw [beq_false_of_ne h];exact iH f y l
noncomputable def HD (env:PySem.Env)(n:Str)(k:NameKind):NameKind:=if (k == NameKind.free&&env.scope.kind == .function&&env.kindOf n == some .cell) then NameKind.cell else k
theorem pd (sc:Scope)(env:PySem.Env):(relabel sc env).names=sc.names.map fun p=>(p.1,HD env p.1 p.2):=by
 unfold relabel;refine congrFun (congrArg List.map (funext fun p=>?_)) _;obtain ⟨n,k⟩:=p;unfold HD;dsimp only;split<;>rfl
theorem fq (sc:Scope)(env:PySem.Env)(cl:List (Str×Addr))(C:Addr)(y:Str):(compEnvC sc cl C env).kindOf y=(sc.names.lookup y).map (HD env y):=by
 show ((relabel sc env).names).lookup y=_;rw [pd];exact iH (HD env) y sc.names
section
variable {c:Cx}{fr:List Addr}{G:Gh}{h:Heap}{env:PySem.Env}{L:Ev}{g f:Str→Bool}{sc:Scope}{x:Str}{cl:List (Str×Addr)}{C:Addr}{old:Heap}
structure sS (f:Str→Bool) (sc:Scope) (x:Str):Prop where
 kind:sc.kind=.function
 nodup:(sc.names.map (·.1)).Nodup
 cell:∀p∈sc.names,p.2≠.cell
 free:∀p∈sc.names,p.2=.free→f p.1=true
 loc:sc.names.lookup x=some .local
theorem DU (h:J0 f sc x=true):sS f sc x:=by
 refine (band h).elim fun F4 OP=>?_
 have h3:∀p∈sc.names,_:=List.all_eq_true.mp (band OP).1;exact ⟨LawfulBEq.eq_of_beq (band F4).1,of_decide_eq_true (band F4).2,fun p hp e=>(by have q:=kl (band (h3 p hp)).1;rw [e] at q;exact Jw q),fun p hp e=>(Bool.or_eq_true_iff.mp (band (h3 p hp)).2).elim (fun q=>by rw [e] at q;cases q) id,LawfulBEq.eq_of_beq (band OP).2⟩
theorem nV {y:Str}(h:y∈k6 sc):(y,NameKind.free)∈sc.names:=by
 obtain ⟨⟨n,k⟩,h1,h2⟩:=List.mem_filterMap.mp h;have h2:(if k=.free then some n else none)=some y:=h2;by_cases hk:k=.free
 ·rw [if_pos hk] at h2;induction Option.some.inj h2;exact hk▸h1
 ·rw [if_neg hk] at h2;exact bR h2
theorem kind_free {y:Str}(hy:sc.names.lookup y=some .free):(compEnvC sc cl C env).kindOf y=some .cell∨(compEnvC sc cl C env).kindOf y=some .free:=by
 rw [fq,hy];show some (HD env y .free)=some .cell∨some (HD env y .free)=some .free;unfold HD;split
 ·exact .inl rfl
 ·exact .inr rfl
theorem bz.comp (S:bz g f env)(ok:sS f sc x)(hc:∀y,(y,NameKind.free)∈sc.names→cl.lookup y=env.cells.lookup y):bz (aP sc .globalImplicit) (aP sc .free) (compEnvC sc cl C env):=by
 refine ⟨fun y hy=>?_,fun y hy=>?_⟩
 ·rw [fq,(LawfulBEq.eq_of_beq hy:sc.names.lookup y=_)];rfl
 ·have hy:sc.names.lookup y=some .free:=LawfulBEq.eq_of_beq hy;have hm:=lookup_mem hy;obtain ⟨_,ca,q⟩:=S.cell y (ok.free _ hm rfl);exact ⟨kind_free hy,ca,(hc y hm).trans q⟩
theorem jH.comp {AI m:Str→Option Value}{y:Str}{w:Value}(b:jH G h env AI y w)(k1:env.kindOf y=some .cell∨env.kindOf y=some .free)(kk:(compEnvC sc cl C env).kindOf y=some .cell∨(compEnvC sc cl C env).kindOf y=some .free)(e:cl.lookup y=env.cells.lookup y):jH G h (compEnvC sc cl C env) m y w:=by
 induction b with
 |loc b1=>rcases k1 with k1|k1<;>cases Option.some.inj (b1.symm.trans k1)
 |cell k cb b1 b2 b3 b4 b5=>exact kk.elim (fun kk=>.cell .cell cb (.inl rfl) kk (e.trans b3) b4 b5) fun kk=>.cell .free cb (.inr rfl) kk (e.trans b3) b4 b5
theorem eY.nil {m:Str→Option Value}:eY c old G h fr env m []:=⟨fun _=>[],(fun _ q=>nomatch q),(fun _ q=>nomatch q),List.nodup_nil,(fun _ q=>nomatch q)⟩
theorem gS.comp {HE:Heap}{m:Str→Option Value}{t:T}{v:Value}(E:gS c old G h fr env L)(S:bz g f env)(ok:sS f sc x)(hc:∀y,(y,NameKind.free)∈sc.names→cl.lookup y=env.cells.lookup y)
  (hn:h.Ns C m) (hm:m x=some v) (lC:Loose G C) (r:Rep c G t v):gS c HE G h fr (compEnvC sc cl C env) (inner L sc x t):=by
 obtain ⟨e1,e2,e3,AI,e4,e5,e6,_⟩:=E;refine ⟨ok.kind,e2,e3,m,hn,lC,fun y t' hy=>?_,eY.nil⟩;have hy:(if y=x then some t else if y∈k6 sc then L.loc y else none)=some t':=hy;by_cases q:y=x
 ·subst q;rw [if_pos rfl] at hy;induction Option.some.inj hy;exact ⟨v,.loc (by rw [fq,ok.loc];rfl) hm,r⟩
 ·rw [if_neg q] at hy;by_cases hk:y∈k6 sc
  ·rw [if_pos hk] at hy;have qR:=nV hk;obtain ⟨w,b,r'⟩:=e6 y t' hy;exact ⟨w,b.comp (S.cell y (ok.free _ qR rfl)).1 (kind_free (eG ok.nodup qR)) (hc y qR),r'⟩
  ·rw [if_neg hk] at hy;exact bR hy
end
structure ux (A:Around) (h₀:Heap) (Γ:Gh) (a:Addr):Prop where
 loose:Loose Γ a
 nf:a∉ai A
 new:h₀.get? a=none
structure LI (prog:Program) (c:Cx) (A:Around) (k:Kd) (Γ:Gh) (σ:Sg) (s:Shared) (it C D:Addr) (rest:List T) (af:Gh) (aa:Sg) (s₁:Shared):Prop where
 same:b0 s s₁
 st:St c af aa s₁.heap
 step:Step (ai A) Γ σ s.heap af aa s₁.heap
 mw:cP prog c A k it rest af aa s₁.heap
 ns:∃m,s₁.heap.Ns C m
 ni:ux A s.heap af it
 nc:ux A s.heap af C
 nd:ux A s.heap af D
 ic:it≠C
 Gl:it≠D
 cd:C≠D
structure LE (c:Cx) (A:Around) (Γ:Gh) (σ:Sg) (s:Shared) (C D:Addr) (af:Gh) (aa:Sg) (s₁:Shared):Prop where
 same:b0 s s₁
 st:St c af aa s₁.heap
 step:Step (ai A) Γ σ s.heap af aa s₁.heap
 ns:∃m,s₁.heap.Ns C m
 nc:ux A s.heap af C
 nd:ux A s.heap af D
 cd:C≠D
section
variable {prog:Program}{c:Cx}{A:Around}{I:Inv (ai A)}{k:Kd}{Γ af aj:Gh}{σ aa au:Sg}{s s₁ aJ:Shared}{env:PySem.Env}{L:Ev}{G:Calls}{it C D:Addr}{rest:List T}{E:Value→Shared→Prop}
theorem ux.step {h₀ h₁ fj:Heap}{a:Addr}{o:Obj}(x:ux A h₀ af a)(y:Step (ai A) af aa h₁ aj au fj)(e:h₁.get? a=some o):ux A h₀ aj a:=⟨x.loose.old y e,x.nf,x.new⟩
theorem qX {h h':Heap}(x:∃m,h.Ns C m)(kp:∀o,h.get? C=some o→h'.get? C=some o):∃m,h'.Ns C m:=x.elim fun m hm=>⟨m,hm.at' kp⟩
theorem LI.pre (x:LI prog c A k Γ σ s it C D rest af aa s₁)(P:Pre c A I Γ σ s):Pre c A I af aa s₁:=P.next x.st x.step
theorem LI.next {t:T}{r:List T}{h':Heap}{tk:Tok}(x:LI prog c A k Γ σ s it C D (t::r) af aa s₁)(q:cP prog c A k it r af aa h')(kp:∀b o,b≠it→s₁.heap.get? b=some o→h'.get? b=some o):
  LI prog c A k Γ σ s it C D r af aa {s₁ with heap:=h',toks:=tk}:=
 have W:=fz x.st x.step x.ni.new x.ni.loose kp
 ⟨x.same.trans ⟨h',tk⟩,W.S,W.x,q,qX x.ns fun o=>kp C o x.ic.symm,x.ni,x.nc,x.nd,x.ic,x.Gl,x.cd⟩
theorem LI.done {h':Heap}{tk:Tok}(x:LI prog c A k Γ σ s it C D [] af aa s₁)(kp:∀b o,b≠it→s₁.heap.get? b=some o→h'.get? b=some o):
  LE c A Γ σ s C D af aa {s₁ with heap:=h',toks:=tk}:=
 have W:=fz x.st x.step x.ni.new x.ni.loose kp
 ⟨x.same.trans ⟨h',tk⟩,W.S,W.x,qX x.ns fun o=>kp C o x.ic.symm,x.nc,x.nd,x.cd⟩
theorem LI.store {h':Heap}{tk:Tok}{m:Str→Option Value}(x:LI prog c A k Γ σ s it C D rest af aa s₁)(hn:h'.Ns C m)(sb:Heap.SameBut C s₁.heap h'):
  LI prog c A k Γ σ s it C D rest af aa {s₁ with heap:=h',toks:=tk}:=
 have kp:∀b o,b≠C→s₁.heap.get? b=some o→h'.get? b=some o:=fun b o hb e=>(sb.2 b hb).trans e
 have W:=fz x.st x.step x.nc.new x.nc.loose kp
 ⟨x.same.trans ⟨h',tk⟩,W.S,W.x,x.mw.turn x.nc.loose x.ic kp,⟨m,hn⟩,x.ni,x.nc,x.nd,x.ic,x.Gl,x.cd⟩
theorem LI.fill {h':Heap}{tk:Tok}(x:LI prog c A k Γ σ s it C D rest af aa s₁)(sb:Heap.SameBut D s₁.heap h'):
  LI prog c A k Γ σ s it C D rest af aa {s₁ with heap:=h',toks:=tk}:=
 have kp:∀b o,b≠D→s₁.heap.get? b=some o→h'.get? b=some o:=fun b o hb e=>(sb.2 b hb).trans e
 have W:=fz x.st x.step x.nd.new x.nd.loose kp
 ⟨x.same.trans ⟨h',tk⟩,W.S,W.x,x.mw.turn x.nd.loose x.Gl kp,qX x.ns fun o=>kp C o x.cd,x.ni,x.nc,x.nd,x.ic,x.Gl,x.cd⟩
theorem LI.steps {od:Obj}(x:LI prog c A k Γ σ s it C D rest af aa s₁)(hd:s₁.heap.get? D=some od)(P:Pre c A I Γ σ s)(sm:b0 s₁ aJ)(S:St c aj au aJ.heap)(y:Step (ai A) af aa s₁.heap aj au aJ.heap)
  (ep:k=.h→au.self.map (·.ep)=aa.self.map (·.ep)):LI prog c A k Γ σ s it C D rest aj au aJ:=by
 refine (x.ns).elim fun m hm=>?_
 have qR:=hm;obtain ⟨oc,_,_,hc,_⟩:=qR;obtain ⟨oi,hi⟩:=x.mw.alive;exact ⟨x.same.trans sm,S,Step.trans P.st x.step y,x.mw.step x.st S y ep x.ni.loose x.ni.nf,⟨m,(y.ns x.nc.loose hm).1⟩,x.ni.step y hi,x.nc.step y hc,x.nd.step y hd,x.ic,x.Gl,x.cd⟩
end
section
variable {prog:Program}{c:Cx}{A:Around}{k:Kd}{Γ af aj:Gh}{σ aa au:Sg}{s s₁ aJ:Shared}{env:PySem.Env}{L:Ev}{G:Calls}{old:Heap}{g f:Str→Bool}{sc:Scope}{x:Str}{cl:List (Str×Addr)}{it C D:Addr}{rest r:List T}{t:T}{v:Value}{od:Obj}{h₁:Heap}{kD:Tok}{E:Value→Shared→Prop}{α β:Type}
inductive C4 (prog:Program) (c:Cx) (A:Around) (k:Kd) (Γ:Gh) (σ:Sg) (s:Shared) (x:Str) (it C D:Addr) (rest:List T) (t:T) (od:Obj) (af:Gh) (aa:Sg) (s₁:Shared):Prop
 |mk (X:LI prog c A k Γ σ s it C D rest af aa s₁) (hd:s₁.heap.get? D=some od) (m:Str→Option Value) (ns:s₁.heap.Ns C m) (v:Value) (e:m x=some v) (r:Rep c af t v):C4 prog c A k Γ σ s x it C D rest t od af aa s₁
theorem mx {px:Pos}{Q:Unit→Shared→Prop}(X:LI prog c A k Γ σ s it C D (t::r) af aa s₁)(hd:s₁.heap.get? D=some od)(ok:sS f sc x)(rv:Rep c af t v)(mw:cP prog c A k it r af aa h₁)(kp:∀b o,b≠it→s₁.heap.get? b=some o→h₁.get? b=some o)
  (q:∀fj tk,C4 prog c A k Γ σ s x it C D r t od af aa {s₁ with heap:=fj,toks:=tk}→Q () {s₁ with heap:=fj,toks:=tk}):wpAny (model prog c.w) A (PySem.assign (.Name x px) (compEnvC sc cl C env) v) Q E {s₁ with heap:=h₁,toks:=kD}:=by
 have sO:=X.next (tk:=kD) mw kp;obtain ⟨m₁,J1⟩:=sO.ns;exact wpAny_assign_Name (wpAny_storeName_local (env:=compEnvC sc cl C env) (by rw [fq,ok.loc];rfl) J1 (fun fj sT sb=>q fj _ (.mk (sO.store (tk:=kD+1) sT sb) ((sb.2 D X.cd.symm).trans (kp _ _ X.Gl.symm hd)) _ sT v (if_pos rfl) rv)) (by rw [show (compEnvC sc cl C env).scope.kind=.function from ok.kind];rfl))
theorem C4.pre (T:C4 prog c A k Γ σ s x it C D rest t od af aa s₁)(P:Pre c A (cg c old (ai A) env L) Γ σ s)(ES:bz g f env)(ok:sS f sc x)(hc:∀y,(y,NameKind.free)∈sc.names→cl.lookup y=env.cells.lookup y):Pre c A (cg c s.heap (ai A) (compEnvC sc cl C env) (inner L sc x t)) af aa s₁:=by
 obtain ⟨X,hd,m,ns,v,e,r⟩:=T;have aU:=X.pre P;exact ⟨aU.st,aU.fr,gS.comp (show gS c old af s₁.heap (ai A) env L from aU.inv) ES ok hc ns e X.nc.loose r⟩
theorem C4.steps {I:Inv (ai A)}(T:C4 prog c A k Γ σ s x it C D rest t od af aa s₁)(P:Pre c A I Γ σ s)(sm:b0 s₁ aJ)(S:St c aj au aJ.heap)(y:Step (ai A) af aa s₁.heap aj au aJ.heap)(ep:k=.h→au.self.map (·.ep)=aa.self.map (·.ep)):C4 prog c A k Γ σ s x it C D rest t od aj au aJ:=by
 obtain ⟨X,hd,m,ns,v,e,r⟩:=T;exact ⟨X.steps hd P sm S y ep,y.keep _ _ hd X.nd.loose.m X.nd.loose.i X.nd.nf,m,(y.ns X.nc.loose ns).1,v,e,Rep.mono y.le _ _ r⟩
theorem C4.quiet {R:Heap→Gh→Sg→Heap→α→β→Prop}{F:T→M α}{Y:Sem β}{K:β→Shared→Prop}(T:C4 prog c A k Γ σ s x it C D rest t od af aa s₁)(P:Pre c A (cg c old (ai A) env L) Γ σ s)(ES:bz g f env)(ok:sS f sc x)(hc:∀y,(y,NameKind.free)∈sc.names→cl.lookup y=env.cells.lookup y)
  (h:aC prog c A (cg c s.heap (ai A) (compEnvC sc cl C env) (inner L sc x t)) R (F t) Y) (hR:jJ R) (ne:quiet k F t aa≠.stuck)
  (q:∀a b aj au aJ,quiet k F t aa=.ok a au→C4 prog c A k Γ σ s x it C D rest t od aj au aJ→af.Le aj→R s₁.heap aj au aJ.heap a b→K b aJ):wpAny (model prog c.w) A Y K E s₁:=by
 refine wpAny_mono (AO h (T.pre P ES ok hc) ne hR) (fun b jK z=>?_) fun _ _ q=>q
 obtain ⟨a,d0,eq,ep,cW,sm,MY,J2,rb⟩:=z;exact q a b cW d0 jK eq (T.steps P sm MY J2 ep) J2.le rb
theorem M.AP (b:Bool)(m m':M α)(q:α→M β):((if b=true then m else m')>>=q)=if b=true then m>>=q else m'>>=q:=by induction b<;>rfl
theorem uZ (F:T→M Bool)(Gf:T→M (T×Kd))(t:T)(r:List T)(q:List T→M β):(tests F Gf (t::r)>>=q)=(F t>>=fun b=>if b=true then (Gf t>>=fun y=>solid y>>=fun b=>tests F Gf r>>=fun bs=>q (b.1::bs)) else tests F Gf r>>=q):=by
 show (F t>>=fun b=>if b=true then (Gf t>>=fun y=>solid y>>=fun b=>tests F Gf r>>=fun bs=>(pure (b.1::bs):M (List T))) else tests F Gf r)>>=q=_;rw [M.assoc];refine congrArg (F t>>=·) (funext fun b=>?_);rw [M.AP,M.assoc];refine congrArg (fun z=>if b=true then (Gf t>>=z) else tests F Gf r>>=q) (funext fun y=>?_);rw [M.assoc];refine congrArg (solid y>>=·) (funext fun b=>?_);rw [M.assoc];rfl
theorem sU {b:T×Kd}{q:T×Kd→M α}{σ:Sg}(ne:(solid b>>=q) σ≠.stuck):b.2≠.h∧(solid b>>=q) σ=q b σ:=by
 by_cases h:b.2=.h
 ·exact absurd (show (solid b>>=q) σ=.stuck by unfold solid;rw [if_pos h];rfl) ne
 ·exact ⟨h,by unfold solid;rw [if_neg h];rfl⟩
theorem wQ.solid {h:Heap}{b:T×Kd}{w:Value}(x:wQ c Γ σ h b w)(n:b.2≠.h):Rep c Γ b.1 w:=by
 induction x with
 |h k=>exact absurd k n
 |rep _ r=>exact r
inductive J3 (prog:Program) (c:Cx) (A:Around) (k:Kd) (Γ:Gh) (σ:Sg) (s:Shared) (it C D:Addr) (F:T→M Bool) (Gf:T→M (T×Kd)) (res:Res (List T)):Nat→Shared→Prop
 |mk (af:Gh) (aa:Sg) (s₁:Shared) (rest acc:List T) (vs:List Value) (m:Nat) (X:LI prog c A k Γ σ s it C D rest af aa s₁) (hd:s₁.heap.get? D=some (aG vs m)) (rl:az c af acc vs) (hz:acc.length+rest.length≤sizeLine) (e:res=(tests F Gf rest>>=fun bs=>pure (acc++bs)) aa):J3 prog c A k Γ σ s it C D F Gf res rest.length s₁
theorem u0 (m:M α)(σ:Sg):m σ=(m>>=fun a=>pure a) σ:=by
 show _=M.bind _ _ σ;unfold M.bind;induction m σ<;>rfl
theorem yn {elt iter:Expr}{px pos:Pos}{ifs:List Expr}{R:Result→Shared→Prop}{l:List T}
  (P:Pre c A (cg c old (ai A) env L) Γ σ s) (ES:bz g f env) (ok:sS f sc x) (hc:∀y,(y,NameKind.free)∈sc.names→cl.lookup y=env.cells.lookup y)
  (hT:∀e∈ifs,iF prog c A (compEnvC sc cl C env) G e) (hE:bk prog c A (compEnvC sc cl C env) G elt)
  (ne:tests (quiet k fun t=>cE G (inner L sc x t) ifs) (quiet k fun t=>ag G (inner L sc x t) elt) l σ≠.stuck)
  (HF:LI prog c A k Γ σ s it C D l Γ σ s₁) {n₁:Nat} (hD:s₁.heap.get? D=some (aG [] n₁)) (hz:l.length≤sizeLine)
  (hR:∀af aa s₁ acc vs m,LE c A Γ σ s C D af aa s₁→s₁.heap.get? D=some (aG vs m)→az c af acc vs→vs.length≤sizeLine→
   tests (quiet k fun t=>cE G (inner L sc x t) ifs) (quiet k fun t=>ag G (inner L sc x t) elt) l σ=.ok acc aa→R (.ok .next) s₁):
  codeAny (model prog c.w) A (.compLoop (.ListComp elt [⟨.Name x px,iter,ifs,0⟩] sc pos) 0 (.ref it) (.ref D) (compEnvC sc cl C env)) R s₁:=by
 generalize sV:tests (quiet k fun t=>cE G (inner L sc x t) ifs) (quiet k fun t=>ag G (inner L sc x t) elt) l σ=res at ne hR;refine codeAny_compLoop_tests (J3 prog c A k Γ σ s it C D _ _ res) ?_ l.length (.mk Γ σ s₁ l [] [] n₁ HF hD az.nil (by rw [List.length_nil,Nat.zero_add];exact hz) (sV.symm.trans (u0 _ σ)))
 rintro n s₁ ⟨af,aa,_,rest,acc,vs,m,X,hd,rl,yp,e⟩
 have hl:=rl.length
 induction rest with
 |nil=>exact cP.done X.mw fun h' tk kp=>hR af aa _ acc vs m (X.done kp) (kp _ _ X.Gl.symm hd) rl (hl▸yp) (e.trans (congrArg (fun l=>Res.ok l aa) (List.append_nil acc)))
 |cons t r=>
  have yp:acc.length+(r.length+1)≤sizeLine:=yp;refine cP.item X.mw X.ni.loose fun v h₁ kD rv mw kp=>mx X hd ok rv mw kp fun fj Gm AK=>?_
  rw [uZ] at e;refine AK.quiet P ES ok hc (aC.tests fun e he=>hT e he s.heap (inner L sc x t)) Ah (M.aT fun q=>ne (e.trans q)) fun a b cW d0 jK eq AQ sW rb=>?_
  cases rb;have e:=e.trans (M.aZ eq)
  induction a with
  |false=>
   obtain ⟨HH,AR,_⟩:=AQ;exact ⟨r.length,Nat.lt_succ_self _,.mk cW d0 jK r acc vs m HH AR (az.mono sW _ _ rl) (Nat.le_of_succ_le yp) e⟩
  |true=>
   refine AQ.quiet P ES ok hc (hE s.heap (inner L sc x t)).kA qN (M.aT fun q=>ne (e.trans q)) fun b w Gn AS DV AU HI AV rb=>?_
   have e:=e.trans (M.aZ AU);refine (sU fun q=>ne (e.trans q)).elim fun hs es=>?_
   obtain ⟨MZ,J4,_⟩:=HI;refine wpAny_list_append_plain ⟨m,J4⟩ (fun Qe hp sb=>?_) (Nat.le_of_succ_le (Nat.le_trans (hl▸Nat.add_le_add_left (Nat.succ_le_succ (Nat.zero_le _)) _) yp));obtain ⟨m',hp⟩:=hp;exact ⟨r.length,Nat.lt_succ_self _,.mk Gn AS _ r (acc++[b.1]) (vs++[w]) m' (MZ.fill (tk:=DV.toks) sb) (hp.trans (by rw [List.push_toArray])) (az.append (az.mono (sW.trans AV) _ _ rl) (az.one (wQ.solid rb hs))) (by rw [List.length_append,List.length_singleton,Nat.add_assoc,Nat.add_comm 1];exact yp)
    (e.trans (es.trans (congrFun (congrArg (tests _ _ r>>=·) (funext fun bs=>congrArg pure (List.append_cons acc b.1 bs))) AS)))⟩
end
section
variable {prog:Program}{c:Cx}{A:Around}{k:Kd}{Γ af aj:Gh}{σ aa au:Sg}{s s₁ aJ:Shared}{env:PySem.Env}{L:Ev}{G:Calls}{old:Heap}{g f:Str→Bool}{sc:Scope}{x:Str}{cl:List (Str×Addr)}{C D:Addr}
theorem ux.back {h₀ h₁:Heap}{a:Addr}(x:ux A h₁ Γ a)(kp:∀x o,h₀.get? x=some o→∃o',h₁.get? x=some o'):ux A h₀ Γ a:=⟨x.loose,x.nf,bQ kp x.new⟩
theorem LE.back {I:Inv (ai A)}(X:LE c A af aa s₁ C D aj au aJ)(P:Pre c A I Γ σ s)(sm:b0 s s₁)(y:Step (ai A) Γ σ s.heap af aa s₁.heap):LE c A Γ σ s C D aj au aJ:=
 ⟨sm.trans X.same,X.st,Step.trans P.st y X.step,X.ns,X.nc.back y.alive,X.nd.back y.alive,X.cd⟩
theorem LI.start {I:Inv (ai A)}{l:List T}{o oD:Obj}{h':Heap}{tk:Tok}{m:Str→Option Value}(P:Pre c A I Γ σ s)(q:cP prog c A k s.heap.objs.size l Γ σ (s.heap.push o))(hf:oD.isFreed=false)
  (hn:h'.Ns (s.heap.objs.size+2) m) (sb:Heap.SameBut (s.heap.objs.size+2) (((s.heap.push o).push oD).push {cls:=.type "dict",data:=.dict #[]}) h'):
  LI prog c A k Γ σ s s.heap.objs.size (s.heap.objs.size+2) (s.heap.objs.size+1) l Γ σ {s with heap:=h',toks:=tk}∧h'.get? (s.heap.objs.size+1)=some oD:=by
 have z1:(s.heap.push o).objs.size=s.heap.objs.size+1:=Heap.size_push ..;have z2:((s.heap.push o).push oD).objs.size=s.heap.objs.size+2:=by rw [Heap.size_push,z1]
 have fresh:∀i,s.heap.get? (s.heap.objs.size+i)=none:=fun i=>Heap.get?_none_of_le (Nat.le_add_right _ _)
 have nw:∀i,ux A s.heap Γ (s.heap.objs.size+i):=fun i=>⟨P.st.loose (fresh i),P.fr.fresh (fresh i),fresh i⟩
 have Qf:s.heap.objs.size≠s.heap.objs.size+1:=Nat.ne_of_lt (Nat.lt_succ_self _);have OQ:s.heap.objs.size+1≠s.heap.objs.size+2:=Nat.ne_of_lt (Nat.lt_succ_self _);have OR:s.heap.objs.size≠s.heap.objs.size+2:=Nat.ne_of_lt (Nat.lt_trans (Nat.lt_succ_self _) (Nat.lt_succ_self _))
 have k1:∀b o',(s.heap.push o).get? b=some o'→h'.get? b=some o':=by
  intro b o' e;have hb:b≠s.heap.objs.size+2:=Nat.ne_of_lt (Nat.lt_of_lt_of_le (Heap.lt_size e) (by rw [z1];exact Nat.le_succ _));exact (sb.2 b hb).trans (aL _ _ (aL _ _ e))
 have kp:∀b o',s.heap.get? b=some o'→h'.get? b=some o':=fun b o' e=>k1 _ _ (aL _ _ e)
 refine ⟨⟨⟨h',tk⟩,P.st.keeps kp,Step.keeps kp P.st,?_,⟨m,hn⟩,nw 0,nw 2,nw 1,OR,Qf,OQ.symm⟩,?_⟩
 ·exact cP.turn (h:=s.heap.push o) (a:=s.heap.objs.size+2) q (nw 2).loose OR fun b o' _ e=>k1 b o' e
 ·rw [sb.2 _ OQ];refine aL _ _ ?_;rw [←z1];exact Heap.get?_push_size _ hf
theorem sX (ok:sS f sc x):∀y∈sc.names,y.2=.local→sc.names.lookup y.1=some .local:=by
 rintro ⟨n,k⟩ hy rfl
 exact eG ok.nodup hy
theorem lB {α:Type}{t:T}{l:List T}{q:List T→M α}{σ:Sg}(hl:gB t=some l):(iterM t>>=q) σ=q l σ:=by
 show M.bind (ay (gB t)) _ σ=_;rw [hl];rfl
theorem pR {elt iter:Expr}{px pos pos':Pos}{ifs:List Expr}{use:Option (Value→Sem Unit)}{Q E:Value→Shared→Prop}(P:Pre c A (cg c old (ai A) env L) Γ σ s)(ES:bz g f env)(ok:sS f sc x)
  (hi:aC prog c A (cg c old (ai A) env L) (RV c (ai A)) (ag G L iter) (eval iter env))
  (hT:∀cl C,(bz (aP sc .globalImplicit) (aP sc .free) (compEnvC sc cl C env))→∀e∈ifs,iF prog c A (compEnvC sc cl C env) G e)
  (hE:∀cl C,(bz (aP sc .globalImplicit) (aP sc .free) (compEnvC sc cl C env))→bk prog c A (compEnvC sc cl C env) G elt)
  (hs:∀v,foldedSetIterable iter env v=pure v)
  (ne:ag G L (.ListComp elt [⟨.Name x px,iter,ifs,0⟩] sc pos) σ≠.stuck)
  (hX:∀v s',mK c A Γ σ s (ag G L (.ListComp elt [⟨.Name x px,iter,ifs,0⟩] sc pos) σ) v s'→E v s')
  (hQ:∀af aa s₁ acc vs m C D,LE c A Γ σ s C D af aa s₁→s₁.heap.get? D=some (aG vs m)→az c af acc vs→vs.length≤sizeLine→
   ag G L (.ListComp elt [⟨.Name x px,iter,ifs,0⟩] sc pos) σ=.ok (.list acc,.own) aa→compPost (model prog c.w) A E use Q (.ref D) C (.ok .next) s₁):
  wpAny (model prog c.w) A (comprehension (.ListComp elt [⟨.Name x px,iter,ifs,0⟩] sc pos) sc env pos' (newList []) false (eval iter env) use) Q E s:=by
 obtain ⟨cl,Gp,hc⟩:=jQ (scope:=sc) (env:=env) fun p hp hk=>(ES.cell p.1 (ok.free p hp hk)).2
 refine wpAny_comprehension_free rfl hs Gp ok.kind (sX ok) ?_;refine wpAny_mono (seq (f:=fun (s:T×Kd)=>iterM s.1>>=fun l=>jy l s.2 (fun t=>cE G (inner L sc x t) ifs) (fun t=>ag G (inner L sc x t) elt)) P ne hi.kA (K:=_) fun a aa af v s₁ _ y1 y2 ao r ne1 e1=>?_) (fun _ _ q=>q) hX;obtain ⟨t,k⟩:=a;obtain ⟨l,hl⟩:=kz ne1;have e2:=lB (q:=fun l=>jy l k (fun t=>cE G (inner L sc x t) ifs) (fun t=>ag G (inner L sc x t) elt)) (σ:=aa) hl;have ne3:=M.aT fun q=>ne1 (e2.trans q)
 refine qW ao r hl fun o q=>?_
 have z1:(s₁.heap.push o).objs.size=s₁.heap.objs.size+1:=Heap.size_push ..;refine wpAny_newObj_type (wpAny_newFunctionEnv ok.cell (fun y hy=>nomatch hy) (fun h₁ cY d4=>?_) ok.kind);dsimp only at cY d4 ⊢;have J5:((s₁.heap.push o).push {cls:=Value.type "list",data:=Data.seq ([]:List Value).toArray}).objs.size=s₁.heap.objs.size+2:=by rw [Heap.size_push,z1]
 rw [J5] at cY d4;refine (LI.start (tk:=s₁.toks+([]:List (Str×Value)).length) (oD:=aG [] 0) ao q rfl cY d4).elim fun X hD=>?_
 have S':bz (aP sc .globalImplicit) (aP sc .free) (compEnvC sc cl (s₁.heap.objs.size+2) env):=ES.comp ok hc;have loop:=yn (px:=px) (pos:=pos) (iter:=iter) (R:=compPost (model prog c.w) A E use Q (.ref (s₁.heap.objs.size+1)) (s₁.heap.objs.size+2)) ao ES ok hc (fun e he=>hT cl _ S' e he) (hE cl _ S') ne3 X (n₁:=0) hD (sR ao r hl)
  fun aj au aJ acc vs m uX hd rl hz et=>hQ aj au aJ acc vs m _ _ (uX.back P y1 y2) hd rl hz (e1.trans (e2.trans (M.aZ et)))
 show codeAny _ _ (.compStart _ 0 _ _ (compEnvC sc cl ((s₁.heap.push o).push {cls:=Value.type "list",data:=Data.seq ([]:List Value).toArray}).objs.size env)) _ _;rw [J5,z1];exact codeAny_compStart_list loop (cP.self X.mw loop)
end
section
variable {prog:Program}{c:Cx}{A:Around}{k:Kd}{Γ af aj:Gh}{σ aa au:Sg}{s s₁ aJ:Shared}{env:PySem.Env}{L:Ev}{G:Calls}{old:Heap}{g f:Str→Bool}{sc:Scope}{x:Str}{cl:List (Str×Addr)}{it C D:Addr}
theorem LE.OS {h':Heap}{t:T×Kd}{v:Value}{res:Res (T×Kd)}(X:LE c A Γ σ s C D af aa s₁)(sb:Heap.SameBut C s₁.heap h')(tk:Nat)(e:res=.ok t aa)
  (r:RV c (ai A) s.heap af aa h' t v):gF c A Γ σ s (RV c (ai A)) res v {s₁ with heap:=h',toks:=tk}:=
 have W:=dC X.st X.step X.nc.new X.nc.loose sb
 ⟨t,aa,e,af,X.same.trans ⟨h',tk⟩,W.S,W.x,r⟩
theorem aC.AW {elt iter:Expr}{px pos:Pos}{ifs:List Expr}(ES:bz g f env)(ok:sS f sc x)
  (hi:bk prog c A env G iter)
  (hT:∀cl C,(bz (aP sc .globalImplicit) (aP sc .free) (compEnvC sc cl C env))→∀e∈ifs,iF prog c A (compEnvC sc cl C env) G e)
  (hE:∀cl C,(bz (aP sc .globalImplicit) (aP sc .free) (compEnvC sc cl C env))→bk prog c A (compEnvC sc cl C env) G elt)
  (hs:∀v,foldedSetIterable iter env v=pure v):bk prog c A env G (.ListComp elt [⟨.Name x px,iter,ifs,0⟩] sc pos):=by
 intro old L Γ σ s P ne;rw [eval_ListComp];exact pR P ES ok (hi old L) hT hE hs ne (fun _ _ q=>q) fun af aa s₁ acc vs m C D X hd rl hz e=>
  ⟨_,X.ns.choose_spec,fun h' sb=>X.OS sb s₁.toks e (cT.mk [D] (nu.own ⟨D,vs,m,(sb.2 D X.cd.symm).trans hd,hz,rl,X.nd.loose,X.nd.nf⟩) (aY X.nd.new))⟩
theorem sY {k k':Str}{v v':Value}{q:List (Str×Value)}(h:k'≠k):stored ((k',v')::q) k v=(k',v')::stored q k v:=by
 unfold stored;simp only [List.any_cons,h,decide_false,Bool.false_or,List.map_cons,if_false,List.cons_append];split<;>rfl
theorem sZ {k:Str}{v v':Value}{q:List (Str×Value)}(n:k∉q.map (·.1)):stored ((k,v')::q) k v=(k,v)::q:=by
 have hq:q.map (fun kv=>if kv.1=k then (kv.1,v) else kv)=q:=map_eq_self fun kv HJ=>if_neg fun e=>n (List.mem_map.mpr ⟨kv,HJ,e⟩)
 unfold stored;simp only [List.any_cons,decide_true,Bool.true_or,if_true,List.map_cons,hq]
theorem cR.put {k:Str}{t:T}{v:Value}(r':Rep c Γ t v):∀{es:List (Str×T)} {pL:List (Str×Value)},cR c Γ es pL→(es.map (·.1)).Nodup→cR c Γ (dput es k t) (stored pL k v)
 |[],_,r,_=>by cases (show _=[] from r);exact mn.mk v [] r' rfl
 |(k',t')::es,_,r,nd=>by
  induction r with|mk v' q r1 r2=>?_
  refine (List.nodup_cons.mp nd).elim fun n1 n2=>?_
  show cR c Γ (if k'=k then (k',t)::es else (k',t')::dput es k t) _;by_cases h:k'=k
  ·subst h;rw [if_pos rfl,sZ (cR.names r2▸n1)];exact mn.mk v q r' r2
  ·rw [if_neg h,sY h];exact mn.mk v' _ r1 (cR.put r' r2 n2)
theorem iI {k:Str}{t:T}:∀{es:List (Str×T)},(dput es k t).length≤es.length+1
 |[]=>Nat.le_refl _
 |(k',t')::es=>by
  show (if k'=k then (k',t)::es else (k',t')::dput es k t).length≤_;by_cases h:k'=k
  ·rw [if_pos h];exact Nat.le_succ _
  ·rw [if_neg h];exact Nat.succ_le_succ iI
theorem AX {es:List (Str×T)}{ds:List DictEntry}{n:Nat}{key:Str}{tk:Tok}{t:T}{v:Value}{E:Value→Shared→Prop}{Q:Unit→Shared→Prop}(hd:s.heap.get? D=some (aB ds n))(r:aW c Γ es ds)(nd:(es.map (·.1)).Nodup)(r':Rep c Γ t v)
  (hz:es.length≤sizeLine)
  (q:∀h',DictAt c Γ h' D (dput es key t)→Heap.SameBut D s.heap h'→Q () {s with heap:=h',toks:=s.toks+1}):
  wpAny (model prog c.w) A (dictSet D (.str key tk) v) Q E s:=
 wpAny_dictSet_pairs (strKind_is prog c.w key tk) (eB (prog:=prog) hd r nd) (fun h' hx sb=>q h' (fA hx ((jd r).put r' nd)) sb) (dE r▸hz)
theorem u4 (F:T→M Bool)(Kf Gf:T→M (T×Kd))(acc:List (Str×T))(t:T)(r:List T):bo F Kf Gf acc (t::r)=(F t>>=fun b=>if b=true then (Kf t>>=fun y=>(match y with|(.str x,_)=>(Gf t>>=fun b=>solid b>>=fun b=>bo F Kf Gf (dput acc x b.1) r)|_=>stuck)) else bo F Kf Gf acc r):=rfl
inductive J6 (prog:Program) (c:Cx) (A:Around) (k:Kd) (Γ:Gh) (σ:Sg) (s:Shared) (it C D:Addr) (F:T→M Bool) (Kf Gf:T→M (T×Kd)) (res:Res (List (Str×T))):Nat→Shared→Prop
 |mk (af:Gh) (aa:Sg) (s₁:Shared) (rest:List T) (acc:List (Str×T)) (X:LI prog c A k Γ σ s it C D rest af aa s₁) (da:DictAt c af s₁.heap D acc) (hz:acc.length+rest.length≤sizeLine) (e:res=bo F Kf Gf acc rest aa):J6 prog c A k Γ σ s it C D F Kf Gf res rest.length s₁
theorem DW {α:Type}{y:T×Kd}{q:Str→M α}{σ:Sg}(ne:(match y with|(.str x,_)=>q x|_=>stuck) σ≠.stuck):Hl y:=by
 obtain ⟨t,k⟩:=y
 cases t with
 |str x=>exact .mk x k
 |_=>exact absurd rfl ne
theorem yq {kx vx iter:Expr}{px pos:Pos}{ifs:List Expr}{R:Result→Shared→Prop}{l:List T}
  (P:Pre c A (cg c old (ai A) env L) Γ σ s) (ES:bz g f env) (ok:sS f sc x) (hc:∀y,(y,NameKind.free)∈sc.names→cl.lookup y=env.cells.lookup y)
  (hT:∀e∈ifs,iF prog c A (compEnvC sc cl C env) G e) (hK:bk prog c A (compEnvC sc cl C env) G kx) (hE:bk prog c A (compEnvC sc cl C env) G vx)
  (ne:bo (quiet k fun t=>cE G (inner L sc x t) ifs) (quiet k fun t=>ag G (inner L sc x t) kx) (quiet k fun t=>ag G (inner L sc x t) vx) [] l σ≠.stuck)
  (HF:LI prog c A k Γ σ s it C D l Γ σ s₁) {n₁:Nat} (hD:s₁.heap.get? D=some (aB [] n₁)) (hz:l.length≤sizeLine)
  (hR:∀af aa s₁ acc ds m,LE c A Γ σ s C D af aa s₁→s₁.heap.get? D=some (aB ds m)→aW c af acc ds→(acc.map (·.1)).Nodup→ds.length≤sizeLine→
   bo (quiet k fun t=>cE G (inner L sc x t) ifs) (quiet k fun t=>ag G (inner L sc x t) kx) (quiet k fun t=>ag G (inner L sc x t) vx) [] l σ=.ok acc aa→R (.ok .next) s₁):
  codeAny (model prog c.w) A (.compLoop (.DictComp kx vx [⟨.Name x px,iter,ifs,0⟩] sc pos) 0 (.ref it) (.ref D) (compEnvC sc cl C env)) R s₁:=by
 generalize sV:bo (quiet k fun t=>cE G (inner L sc x t) ifs) (quiet k fun t=>ag G (inner L sc x t) kx) (quiet k fun t=>ag G (inner L sc x t) vx) [] l σ=res at ne hR;refine codeAny_compLoop_testsD (J6 prog c A k Γ σ s it C D _ _ _ res) ?_ l.length (.mk Γ σ s₁ l [] HF ⟨[],n₁,hD,aW.nil,List.nodup_nil⟩ (by rw [List.length_nil,Nat.zero_add];exact hz) sV.symm)
 rintro n s₁ ⟨af,aa,_,rest,acc,X,⟨ds,m,hd,rl,nd⟩,yp,e⟩
 induction rest with
 |nil=>exact cP.done X.mw fun h' tk kp=>hR af aa _ acc ds m (X.done kp) (kp _ _ X.Gl.symm hd) rl nd (rl.length▸yp) e
 |cons t r=>
  have yp:acc.length+(r.length+1)≤sizeLine:=yp;refine cP.item X.mw X.ni.loose fun v h₁ kD rv mw kp=>mx X hd ok rv mw kp fun fj Gm AK=>?_
  rw [u4] at e;refine AK.quiet P ES ok hc (aC.tests fun e he=>hT e he s.heap (inner L sc x t)) Ah (M.aT fun q=>ne (e.trans q)) fun a b cW d0 jK eq AQ sW rb=>?_
  cases rb;have e:=e.trans (M.aZ eq)
  induction a with
  |false=>
   obtain ⟨HH,AR,_⟩:=AQ;exact ⟨r.length,Nat.lt_succ_self _,.mk cW d0 jK r acc HH ⟨ds,m,AR,aW.mono sW _ _ rl,nd⟩ (Nat.le_of_succ_le yp) e⟩
  |true=>
   refine AQ.quiet P ES ok hc (hK s.heap (inner L sc x t)).weak Ae (M.aT fun q=>ne (e.trans q)) fun kt kv Gn AS DV AU HI AV rk=>?_
   have e:=e.trans (M.aZ AU)
   induction DW fun q=>ne (e.trans q) with
   |mk key kk=>
   induction (pD.nE rk rfl).str_inv with
   |mk Rv=>
   refine HI.quiet P ES ok hc (hE s.heap (inner L sc x t)).kA qN (M.aT fun q=>ne (e.trans q)) fun b w J7 J8 DX J9 M0 Ka rb=>?_
   have e:=e.trans (M.aZ J9);refine (sU fun q=>ne (e.trans q)).elim fun hs es=>?_
   obtain ⟨M1,Kb,_⟩:=M0;exact AX Kb (aW.mono (sW.trans (AV.trans Ka)) _ _ rl) nd (wQ.solid rb hs) (Nat.le_trans (Nat.le_add_right _ _) yp) fun Qg da sb=>
    ⟨r.length,Nat.lt_succ_self _,.mk J7 J8 _ r (dput acc key b.1) (M1.fill (tk:=DX.toks+1) sb) da (Nat.le_trans (Nat.add_le_add_right iI _) (by rw [Nat.add_assoc,Nat.add_comm 1];exact yp)) (e.trans es)⟩
theorem pS {kx vx iter:Expr}{px pos pos':Pos}{ifs:List Expr}{use:Option (Value→Sem Unit)}{Q E:Value→Shared→Prop}(P:Pre c A (cg c old (ai A) env L) Γ σ s)(ES:bz g f env)(ok:sS f sc x)
  (hi:aC prog c A (cg c old (ai A) env L) (RV c (ai A)) (ag G L iter) (eval iter env))
  (hT:∀cl C,(bz (aP sc .globalImplicit) (aP sc .free) (compEnvC sc cl C env))→∀e∈ifs,iF prog c A (compEnvC sc cl C env) G e)
  (hK:∀cl C,(bz (aP sc .globalImplicit) (aP sc .free) (compEnvC sc cl C env))→bk prog c A (compEnvC sc cl C env) G kx)
  (hE:∀cl C,(bz (aP sc .globalImplicit) (aP sc .free) (compEnvC sc cl C env))→bk prog c A (compEnvC sc cl C env) G vx)
  (hs:∀v,foldedSetIterable iter env v=pure v)
  (ne:ag G L (.DictComp kx vx [⟨.Name x px,iter,ifs,0⟩] sc pos) σ≠.stuck)
  (hX:∀v s',mK c A Γ σ s (ag G L (.DictComp kx vx [⟨.Name x px,iter,ifs,0⟩] sc pos) σ) v s'→E v s')
  (hQ:∀af aa s₁ acc ds m C D,LE c A Γ σ s C D af aa s₁→(D == sysModules)=false→s₁.heap.get? D=some (aB ds m)→aW c af acc ds→(acc.map (·.1)).Nodup→ds.length≤sizeLine→
   ag G L (.DictComp kx vx [⟨.Name x px,iter,ifs,0⟩] sc pos) σ=.ok (.dict acc,.own) aa→compPost (model prog c.w) A E use Q (.ref D) C (.ok .next) s₁) (fa:Facts c):
  wpAny (model prog c.w) A (comprehension (.DictComp kx vx [⟨.Name x px,iter,ifs,0⟩] sc pos) sc env pos' newDict false (eval iter env) use) Q E s:=by
 obtain ⟨cl,Gp,hc⟩:=jQ (scope:=sc) (env:=env) fun p hp hk=>(ES.cell p.1 (ok.free p hp hk)).2
 refine wpAny_comprehension_free rfl hs Gp ok.kind (sX ok) ?_;refine wpAny_mono (seq (f:=fun (s:T×Kd)=>iterM s.1>>=fun l=>l9 l s.2 (fun t=>cE G (inner L sc x t) ifs) (fun t=>ag G (inner L sc x t) kx) (fun t=>ag G (inner L sc x t) vx)) P ne hi.kA (K:=_) fun a aa af v s₁ _ y1 y2 ao r ne1 e1=>?_) (fun _ _ q=>q) hX;obtain ⟨t,k⟩:=a;obtain ⟨l,hl⟩:=kz ne1;have e2:=lB (q:=fun l=>l9 l k (fun t=>cE G (inner L sc x t) ifs) (fun t=>ag G (inner L sc x t) kx) (fun t=>ag G (inner L sc x t) vx)) (σ:=aa) hl;have ne3:=M.aT fun q=>ne1 (e2.trans q)
 refine qW ao r hl fun o q=>?_
 have z1:(s₁.heap.push o).objs.size=s₁.heap.objs.size+1:=Heap.size_push ..;refine wpAny_newObj_type (wpAny_newFunctionEnv ok.cell (fun y hy=>nomatch hy) (fun h₁ cY d4=>?_) ok.kind);dsimp only at cY d4 ⊢;have J5:((s₁.heap.push o).push {cls:=Value.type "dict",data:=Data.dict #[]}).objs.size=s₁.heap.objs.size+2:=by rw [Heap.size_push,z1]
 rw [J5] at cY d4;refine (LI.start (tk:=s₁.toks+([]:List (Str×Value)).length) (oD:=aB [] 0) ao q rfl cY d4).elim fun X hD=>?_
 have nm:(s₁.heap.objs.size+1 == sysModules)=false:=z1▸Heap.mL (h:=s₁.heap.push o) fa fun b o' e=>aL _ _ (ao.st.kept _ _ e)
 have S':bz (aP sc .globalImplicit) (aP sc .free) (compEnvC sc cl (s₁.heap.objs.size+2) env):=ES.comp ok hc;have loop:=yq (px:=px) (pos:=pos) (iter:=iter) (R:=compPost (model prog c.w) A E use Q (.ref (s₁.heap.objs.size+1)) (s₁.heap.objs.size+2)) ao ES ok hc (fun e he=>hT cl _ S' e he) (hK cl _ S') (hE cl _ S') ne3 X (n₁:=0) hD (sR ao r hl)
  fun aj au aJ acc ds m uX hd rl nd hz et=>hQ aj au aJ acc ds m _ _ (uX.back P y1 y2) nm hd rl nd hz (e1.trans (e2.trans (M.aZ et)))
 show codeAny _ _ (.compStart _ 0 _ _ (compEnvC sc cl ((s₁.heap.push o).push {cls:=Value.type "dict",data:=Data.dict #[]}).objs.size env)) _ _;rw [J5,z1];exact codeAny_compStart_dict loop (cP.self X.mw loop)
theorem aC.AY {kx vx iter:Expr}{px pos:Pos}{ifs:List Expr}(fa:Facts c)(ES:bz g f env)(ok:sS f sc x)
  (hi:bk prog c A env G iter)
  (hT:∀cl C,(bz (aP sc .globalImplicit) (aP sc .free) (compEnvC sc cl C env))→∀e∈ifs,iF prog c A (compEnvC sc cl C env) G e)
  (hK:∀cl C,(bz (aP sc .globalImplicit) (aP sc .free) (compEnvC sc cl C env))→bk prog c A (compEnvC sc cl C env) G kx)
  (hE:∀cl C,(bz (aP sc .globalImplicit) (aP sc .free) (compEnvC sc cl C env))→bk prog c A (compEnvC sc cl C env) G vx)
  (hs:∀v,foldedSetIterable iter env v=pure v):bk prog c A env G (.DictComp kx vx [⟨.Name x px,iter,ifs,0⟩] sc pos):=by
 intro old L Γ σ s P ne;rw [arm_eval_DictComp];exact pS P ES ok (hi old L) hT hK hE hs ne (fun _ _ q=>q) (fun af aa s₁ acc ds m C D X nm hd rl nd hz e=>
  ⟨_,X.ns.choose_spec,fun h' sb=>X.OS sb s₁.toks e (cT.mk [D] (k9.own ⟨D,ds,m,nm,(sb.2 D X.cd.symm).trans hd,hz,nd,rl,X.nd.loose,X.nd.nf⟩) (aY X.nd.new))⟩) fa
end
section
variable {prog:Program}{c:Cx}{A:Around}{I:Inv (ai A)}{Γ af aj:Gh}{σ aa au:Sg}{s s₁ aJ:Shared}{env:PySem.Env}{L:Ev}{G:Calls}{E:Value→Shared→Prop}
theorem aC.Kc {pos:Pos}(fa:Facts c):aC prog c A I (RV c (ai A)) (ag G L (.Dict [] [] pos)) (eval (.Dict [] [] pos) env):=by
 intro Γ σ s P ne;rw [arm_eval_Dict];refine wpAny_bind (wpAny_standAt ?_)
 skip
 exact wpAny_newObj_type (z5 fa P aW.nil (by decide) List.nodup_nil 0 s.toks rfl)
theorem aC.Ke {ke ve:Expr}{pos:Pos}(fa:Facts c)(hk:aC prog c A I (RV c (ai A)) (ag G L ke) (eval ke env))(hv:aC prog c A I (RV c (ai A)) (ag G L ve) (eval ve env)):
  aC prog c A I (RV c (ai A)) (ag G L (.Dict [some ke] [ve] pos)) (eval (.Dict [some ke] [ve] pos) env):=by
 have e0:ag G L (.Dict [some ke] [ve] pos)=(ag G L ke>>=fun a=>jF a>>=fun x=>(ag G L ve>>=Internal.solid)>>=fun t=>k4 (.dict [(x,t.1)])):=by
  show ((ag G L ke>>=jF)>>=fun x=>ag G L ve>>=fun v=>Internal.solid v>>=fun t=>(pure []:M (List (Str×T)))>>=fun es=>(pure ((x,t.1)::es):M (List (Str×T))))>>=(fun es=>if (es.map (·.1)).Nodup then k4 (.dict es) else stuck)=_;simp only [M.assoc];rfl
 rw [e0];intro Γ σ s P ne;refine wpAny_Dict_pairs (knd:=strKind prog c.w) (pairs:=[(eval ke env,do let x ←eval ve env;standAt pos;pure x)]) rfl (List.cons_ne_nil _ _) (show 1≤15 by decide) ?_;have N:=P.push (aB [] 0) s.toks;have nn:=bp s.heap;have nw:ux A s.heap Γ s.heap.objs.size:=⟨P.st.loose nn,P.fr.fresh nn,nn⟩;have OT:(s.heap.push (aB [] 0)).get? s.heap.objs.size=some (aB [] 0):=Heap.get?_push_size _ rfl;have nm:=Heap.mL fa P.st.kept;refine evalPairs_cons (wpAny_mono (seq (f:=fun a=>jF a>>=fun x=>(ag G L ve>>=Internal.solid)>>=fun t=>k4 (.dict [(x,t.1)])) N.P ne hk.weak (K:=_) fun a aa af va s₁ _ y1 y2 ao ra ne1 e1=>?_) (fun _ _ q=>q) fun _ _ q=>q.back P N.y N.x)
 induction qO (M.aT ne1) with
 |mk key kk=>
 induction (pD.nE ra rfl).str_inv with
 |mk tk=>
 have LQ:=y2.keep _ _ OT nw.loose.m nw.loose.i nw.nf;have LR:ux A s.heap af s.heap.objs.size:=nw.step y2 OT;refine wpAny_bind (wpAny_mono (seq (f:=fun (t:T×Kd)=>k4 (.dict [(key,t.1)])) ao ne1 hv.solid (K:=_) fun b au aj vb aJ _ z1 z2 aU rb ne2 e3=>?_) (fun _ _ q=>q) fun _ _ q=>((q.back N.P y1 y2).back P N.y N.x).cast fun _ _ q=>e1.trans q);refine wpAny_bind (wpAny_standAt (wpAny_pure (evalPairs_nil ?_)));have hd2:=z2.keep _ _ LQ LR.loose.m LR.loose.i LR.nf;have LS:ux A s.heap aj s.heap.objs.size:=LR.step z2 LQ;refine ⟨[(key,vb)],⟨strKind_is prog c.w key tk,rfl,trivial⟩,eB (prog:=prog) (c:=c) (Γ:=aj) (es:=[]) hd2 aW.nil List.nodup_nil,fun h' hx sb=>?_⟩;obtain ⟨eN,n',q1,q2,q3⟩:=fA (es:=[(key,b.1)]) hx (mn.mk vb [] rb.r rfl);have W:=dC aU.st (Step.trans P.st N.x (Step.trans N.P.st y2 z2)) LS.new LS.loose sb;exact ⟨(.dict [(key,b.1)],.own),au,e1.trans e3,aj,(N.y.trans (y1.trans z1)).trans ⟨h',_⟩,W.S,W.x,cT.mk [s.heap.objs.size] (k9.own ⟨_,eN,n',nm,q1,q2.length▸(by rw [bC];exact (by decide:1≤16777216)),q3,q2,LS.loose,LS.nf⟩) (aY nn)⟩
theorem DY {a:T×Kd}{σ:Sg}(ne:zO a σ≠.stuck):∃i k,a=(.int i,k)∧aO i=true:=by
 obtain ⟨t,k⟩:=a
 cases t with
 |int i=>
  refine ⟨i,k,rfl,?_⟩;by_cases h:aO i=true
  ·exact h
  ·exact absurd (congrFun (if_neg h:(if aO i=true then val (.str (bc i)) else stuck)=stuck) σ) ne
 |_=>exact absurd rfl ne
theorem aC.fmt {e:Expr}{pos:Pos}(h:aC prog c A I (RV c (ai A)) (ag G L e) (eval e env)):
  aC prog c A I (RV c (ai A)) (ag G L (.FormattedValue e (-1) none pos)) (eval (.FormattedValue e (-1) none pos) env):=
 fun Γ σ s P ne=>FormattedValue_plain (seq (f:=zO) P ne h.weak fun a aa af v s₁ h0 y1 y2 ao r ne1 e1=>by
  obtain ⟨i,k,rfl,hs⟩:=DY ne1;induction (r.rep rfl).int_inv;exact Wp.of (e1.trans (congrFun (if_pos hs:(if aO i=true then val (.str (bc i)) else stuck)=_) aa)) (cF bu P y1 y2 (formatField_int_small (pE hs) (aH ao Rep.str _ rfl))))
theorem pe {e:Expr}{es:List Expr}:evalEach (e::es) env=eval e env::evalEach es env:=rfl
theorem Gq:∀{es:List Expr} (h:∀e∈es,aC prog c A I (RV c (ai A)) (ag G L e) (eval e env)) {out:Str} {Γ:Gh} {σ:Sg} {s:Shared},Pre c A I Γ σ s→out.length≤aq→(fE G L es out>>=fun x=>val (.str x)) σ≠.stuck→
  Wp prog c A (RV c (ai A)) Γ σ s ((fE G L es out>>=fun x=>val (.str x)) σ) (joinParts out (evalEach es env)) s
 |[],_,out,Γ,σ,s,P,ho,ne=>joinParts_nil (aH P Rep.str _ rfl) (dp ho)
 |e::es,h,out,Γ,σ,s,P,ho,ne=>by
  have e0:(fE G L (e::es) out>>=fun x=>val (.str x))=(ag G L e>>=fun a=>jF a>>=fun x=>(if (out++x).length≤aq then fE G L es (out++x) else stuck)>>=fun x=>val (.str x)):=by
   show (ag G L e>>=fun a=>jF a>>=fun x=>if (out++x).length≤aq then fE G L es (out++x) else stuck)>>=(fun x=>val (.str x))=_;rw [M.assoc];refine congrArg (ag G L e>>=·) (funext fun a=>?_);rw [M.assoc]
  rw [e0] at ne ⊢;rw [pe];refine joinParts_cons (seq P ne (h e (.head _)).weak fun a aa af v s₁ h0 y1 y2 ao r ne1 e1=>?_)
  induction qO (M.aT ne1) with
  |mk x kk=>
  induction (pD.nE r rfl).str_inv;by_cases hx:(out++x).length≤aq
  ·have e2:((if (out++x).length≤aq then fE G L es (out++x) else stuck)>>=fun x=>val (.str x)) aa=(fE G L es (out++x)>>=fun x=>val (.str x)) aa:=by rw [if_pos hx]
   exact ⟨dp hx,Wp.of (e1.trans e2) (cF bu P y1 y2 (Gq (fun e he=>h e (.tail _ he)) ao hx fun q=>ne1 (e2.trans q)))⟩
  ·exact absurd (show ((if (out++x).length≤aq then fE G L es (out++x) else stuck)>>=fun x=>val (.str x)) aa=.stuck by rw [if_neg hx];rfl) ne1
theorem aC.joined {es:List Expr}{pos:Pos}(hl:2≤es.length)(h:∀e∈es,aC prog c A I (RV c (ai A)) (ag G L e) (eval e env)):
  aC prog c A I (RV c (ai A)) (ag G L (.JoinedStr es pos)) (eval (.JoinedStr es pos) env):=by
 intro Γ σ s P ne
 match es,hl,h with
 |uI::r5::rest,_,h=>exact JoinedStr_many (Gq h P (by decide) ne)
end
structure mJ where
 params:List Str
 body:List Stmt
 scope:Scope
noncomputable def pf (n:Str):Stmt→Option mJ
 |.FunctionDef m a b _ _ _ sc ..=>if m=n then some ⟨a.args.map (·.arg),b,sc⟩ else none
 |_=>none
structure FnAt (c:Cx) (I:mJ) (fa:Addr) (cd:Value) (qn:Str):Prop where
 at_:∃o fd,c.base.get? fa=some o∧o.data=.func fd∧fd.body=.stmts I.body∧fd.scope=I.scope∧fd.globals=mainGlobals∧fd.closure=[]∧fd.builtins=builtinsNs∧c.base.CodeRec fd.code fd.qualname∧fd.code=cd∧fd.qualname=qn∧
  ∀(s:Shared) (vals:List Value),(∀b o,c.base.get? b=some o→s.heap.get? b=some o)→vals.length=I.params.length→BindsTo s fd ⟨vals,[]⟩ (I.params.zip vals)
noncomputable def HK (I:mJ):Bool:=
 I.scope.kind == .function&&!I.scope.isCoroutine&&!I.scope.isGenerator&&decide (I.params.Nodup)&&decide ((I.scope.names.map (·.1)).Nodup)&&I.scope.names.all (fun p=>!(p.2 == .free))&&I.params.all (fun x=>aP I.scope .local x||aP I.scope .cell x)
structure M3 (I:mJ):Prop where
 kind:I.scope.kind=.function
 co:I.scope.isCoroutine=false
 gen:I.scope.isGenerator=false
 OU:I.params.Nodup
 nd:(I.scope.names.map (·.1)).Nodup
 free:∀p∈I.scope.names,p.2≠.free
 par:∀x∈I.params,I.scope.names.lookup x=some .local∨I.scope.names.lookup x=some .cell
theorem DZ {I:mJ}(h:HK I=true):M3 I:=by
 refine (band h).elim fun h h7=>?_
 refine (band h).elim fun h h6=>?_
 refine (band h).elim fun h h5=>?_
 refine (band h).elim fun h h4=>?_
 refine (band h).elim fun h h3=>?_
 refine (band h).elim fun h1 h2=>?_
 exact ⟨LawfulBEq.eq_of_beq h1,kl h2,kl h3,of_decide_eq_true h4,of_decide_eq_true h5,fun p hp e=>(by have q:=kl (List.all_eq_true.mp h6 p hp);rw [e] at q;exact Jw q),fun x hx=>(Bool.or_eq_true_iff.mp (List.all_eq_true.mp h7 x hx)).imp LawfulBEq.eq_of_beq LawfulBEq.eq_of_beq⟩
theorem nW {x:Str}{v:Value}:∀{xs:List Str} {vs:List Value} {i:Nat},xs.Nodup→xs[i]?=some x→vs[i]?=some v→(xs.zip vs).lookup x=some v
 |[],_,_,_,h,_=>nomatch h
 |_::_,[],_,_,_,h=>nomatch h
 |y::xs,w::vs,i,nd,h1,h2=>by
  refine (List.nodup_cons.mp nd).elim fun n1 n2=>?_
  rw [List.zip_cons_cons,List.lookup_cons]
  induction i with
  |zero=>induction Option.some.inj h1;induction Option.some.inj h2;rw [beq_self_eq_true]
  |succ i=>rw [beq_false_of_ne fun e:x=y=>n1 (e▸List.mem_of_getElem? h1)];exact nW (i:=i) n2 h1 h2
def HL (bs:List (Str×Value))(m:Str→Option Value)(x:Str)(v:Value):Prop:=bs.lookup x=some v∨((∀p∈bs,p.1≠x)∧m x=some v)
theorem HL.nil {m:Str→Option Value}{x:Str}{v:Value}(h:HL [] m x v):m x=some v:=h.elim (fun q=>nomatch q) fun q=>q.2
theorem HL.next {n x:Str}{w v:Value}{r:List (Str×Value)}{m m':Str→Option Value}(h:HL ((n,w)::r) m x v)(nd:n∉r.map (·.1))(e:x=n→m' x=some w)(e':x≠n→m' x=m x):HL r m' x v:=by
 rcases h with h|⟨h1,h2⟩
 ·rw [List.lookup_cons] at h;by_cases q:x=n
  ·subst q;rw [beq_self_eq_true] at h;induction Option.some.inj h;exact .inr ⟨fun p hp e=>nd (List.mem_map.mpr ⟨p,hp,e⟩),e rfl⟩
  ·rw [beq_false_of_ne q] at h;exact .inl h
 ·exact .inr ⟨fun p hp=>h1 p (.tail _ hp),(e' fun q=>h1 (n,w) (.head _) q.symm).trans h2⟩
theorem s6 {kf:Str→Option NameKind}{x:Str}{v:Value}(hk:kf x=some .local):∀{bs:List (Str×Value)} {m:Str→Option Value},(bs.map (·.1)).Nodup→HL bs m x v→bindL kf bs m x=some v
 |[],m,_,h=>h.nil
 |(n,w)::r,m,nd,h=>by
  refine (List.nodup_cons.mp nd).elim fun n1 n2=>?_
  unfold bindL;refine s6 hk n2 (h.next n1 (fun q=>?_) fun q=>?_)
  ·subst q;rw [if_pos hk];exact if_pos rfl
  ·split
   ·exact if_neg q
   ·rfl
theorem s7 {kf:Str→Option NameKind}{x:Str}{v:Value}(hk:kf x≠some .local):∀{bs:List (Str×Value)} {m:Str→Option Value},(bs.map (·.1)).Nodup→HL bs m x v→bindC kf bs m x=some v
 |[],m,_,h=>h.nil
 |(n,w)::r,m,nd,h=>by
  refine (List.nodup_cons.mp nd).elim fun n1 n2=>?_
  unfold bindC;refine s7 hk n2 (h.next n1 (fun q=>?_) fun q=>?_)
  ·subst q;rw [if_neg hk];exact if_pos rfl
  ·split
   ·rfl
   ·exact if_neg q
section
variable {prog:Program}{c:Cx}{A₀:Around}{Γ₀:Gh}{σ₀:Sg}{s₀:Shared}{G:Calls}
theorem nY {x:Str}{t:T}:∀{xs:List Str} {ts:List T},gj xs ts x=some t→∃i:Nat,xs[i]?=some x∧ts[i]?=some t
 |[],_,h=>nomatch h
 |_::_,[],h=>nomatch h
 |y::xs,u::ts,h=>by
  have h:(if x=y then some u else gj xs ts x)=some t:=h;by_cases q:x=y
  ·subst q;rw [if_pos rfl] at h;induction Option.some.inj h;exact ⟨0,rfl,rfl⟩
  ·rw [if_neg q] at h;obtain ⟨i,h1,h2⟩:=nY h;exact ⟨i+1,h1,h2⟩
theorem nZ {A:Around}{env:PySem.Env}{F:Addr}(fr:∃l,A.frames=some l)(hf:env.frame=some F):ai (A.deeper env)=F::ai A:=by
 refine (fr).elim fun l hl=>?_
 unfold ai;rw [Around.frames_deeper hl,hl];simp only [Option.getD_some,List.filterMap_cons,hf]
theorem cells_apart:∀{l:List (Str×Addr)},(l.Pairwise fun p q=>p.2≠q.2)→∀{p q:Str×Addr},p∈l→q∈l→p.2=q.2→p=q:=by
 intro l hl
 induction hl with
 |nil=>intro p q hp;cases hp
 |cons h1 h2 ih=>
  intro p q hp hq e;rcases List.mem_cons.mp hp with p1|p1<;>rcases List.mem_cons.mp hq with q1|q1
  ·exact p1.trans q1.symm
  ·rw [p1] at e;exact absurd e (h1 _ q1)
  ·rw [q1] at e;exact absurd e.symm (h1 _ p1)
  ·exact ih p1 q1 e
structure yr (I:mJ) (s₀:Shared) (env:PySem.Env):Prop where
 loc:env.locals=s₀.heap.objs.size
 frame:env.frame=some env.locals
 scope:env.scope=I.scope
 cells:env.cells=cellsFrom (s₀.heap.objs.size+1) I.scope.names []
 glob:env.globals=mainGlobals
 blt:env.builtins=builtinsNs
theorem yr.kindOf {I:mJ}{s₀:Shared}{env:PySem.Env}(N:yr I s₀ env)(y:Str):env.kindOf y=I.scope.names.lookup y:=by
 show env.scope.names.lookup y=_;rw [N.scope]
theorem yr.cell {I:mJ}{s₀:Shared}{env:PySem.Env}(N:yr I s₀ env){y:Str}(h:I.scope.names.lookup y=some .cell):∃ca,env.cells.lookup y=some ca:=by
 rw [N.cells];exact Option.isSome_iff_exists.mp (cellsFrom_some _ _ _ (.inl h))
theorem enter {ts:List T}{vals:List Value}{I:mJ}(ok:M3 I)(P:Pre c A₀ (Inv.top _) Γ₀ σ₀ s₀)(rl:az c Γ₀ ts vals)(hlen:I.params.length=vals.length){env:PySem.Env}(mv:List Str)(cS:Bool)(N:yr I s₀ env){s:Shared}
  (x:InCallC s₀ env.locals (bindL env.kindOf (I.params.zip vals) fun _=>none) env.cells (bindC env.kindOf (I.params.zip vals) fun _=>none) s):
  aA c A₀ (A₀.deeper env) env {loc:=gj I.params ts,mv:=mv,cS:=cS} Γ₀ σ₀ s₀ Γ₀ σ₀ s:=by
 obtain ⟨h',tk,rfl,kp⟩:=x.done;have fresh:∀a,s₀.heap.objs.size≤a→s₀.heap.get? a=none:=fun a ha=>Heap.get?_none_of_le ha
 have nL:s₀.heap.get? env.locals=none:=by rw [N.loc];exact fresh _ (Nat.le_refl _)
 have AZ:∀y ca,env.cells.lookup y=some ca→s₀.heap.get? ca=none:=fun y ca e=>fresh _ (Nat.le_of_lt (N.loc▸x.above y ca (lookup_mem e)))
 have nd:((I.params.zip vals).map (·.1)).Nodup:=by rw [List.map_fst_zip (Nat.le_of_eq hlen)];exact ok.OU
 obtain ⟨⟨l,hl,Qh⟩,hh⟩:=P.fr;have kg:ai (A₀.deeper env)=env.locals::ai A₀:=nZ ⟨l,hl⟩ N.frame
 refine ⟨P.st,⟨h',tk⟩,P.st.keeps kp,⟨⟨env::l,Around.frames_deeper hl,List.forall_mem_cons.mpr ⟨?_,fun e Qi=>?_⟩⟩,hh⟩,⟨by rw [N.scope];exact ok.kind,N.glob,N.blt,_,x.toInCall.ns,P.st.loose nL,fun y t hy=>?_,eY.nil⟩,Step.keeps kp P.st,kg▸.head _,⟨l,Around.frames_deeper hl⟩,N.frame,fun b hb=>kg▸.tail _ hb,fun b hb=>?_,nL,
  fun y ca e=>⟨AZ y ca e,P.st.loose (AZ y ca e),_,x.cell y ca e⟩,fun y z ca e1 e2=>congrArg Prod.fst (cells_apart x.apart (lookup_mem e1) (lookup_mem e2) rfl),fun y hk=>N.cell ((N.kindOf y).symm.trans hk),fun y hk=>ok.free _ (lookup_mem ((N.kindOf y).symm.trans hk)) rfl⟩
 ·obtain ⟨o,es,ep,q1,q2,_⟩:=x.toInCall.ns;exact ⟨by rw [N.scope,ok.kind];decide,_,o,N.frame,q1,(fun vs q=>by cases q2.symm.trans q),P.st.loose nL⟩
 ·obtain ⟨h1,F,o,h2,h3,h4,h5⟩:=Qh e Qi;exact ⟨h1,F,o,h2,kp _ _ h3,h4,h5⟩
 ·obtain ⟨i,h1,h2⟩:=nY hy;obtain ⟨v,h3,h4⟩:=rl.get h2;have hz:=nW ok.OU h1 h3;refine ⟨v,?_,h4⟩;rcases ok.par y (List.mem_of_getElem? h1) with hk|hk
  ·exact .loc ((N.kindOf y).trans hk) (s6 ((N.kindOf y).trans hk) nd (.inl hz))
  ·have dh:=(N.kindOf y).trans hk;refine (N.cell hk).elim fun ca Jd=>?_
   exact .cell .cell ca (.inl rfl) dh Jd ((s7 (kf:=env.kindOf) (fun q=>by cases Option.some.inj (dh.symm.trans q)) nd (.inl hz):bindC env.kindOf (I.params.zip vals) (fun _=>none) y=some v)▸x.cell y ca Jd) (P.st.loose (AZ y ca Jd))
 ·rw [kg] at hb;exact (List.mem_cons.mp hb).elim (fun q=>.inr (q▸nL)) .inl
structure u5 (I:mJ) (env:PySem.Env):Prop where
 scope:env.scope=I.scope
 cells:∀x,I.scope.names.lookup x=some .cell→∃ca,env.cells.lookup x=some ca
theorem u5.u6 {I:mJ}{env:PySem.Env}(E:u5 I env):bz (aP I.scope .globalImplicit) (aP I.scope .cell) env:=by
 have Je:∀y,env.kindOf y=I.scope.names.lookup y:=fun y=>by show env.scope.names.lookup y=_;rw [E.scope]
 exact ⟨fun x hx=>(Je x).trans (LawfulBEq.eq_of_beq hx),fun x hx=>⟨.inl ((Je x).trans (LawfulBEq.eq_of_beq hx)),E.cells x (LawfulBEq.eq_of_beq hx)⟩⟩
theorem yt {cS:Bool}{f:Fn}{ts:List T}{σ:Sg}(ne:fF G cS f ts σ≠.stuck):f.params.length=ts.length∧fF G cS f ts σ=(ak G f.body {loc:=gj f.params ts,mv:=ew f.body,cS:=cS}>>=fun r=>xY r.1) σ:=by
 unfold fF at ne ⊢;by_cases hl:f.params.length=ts.length
 ·exact ⟨hl,congrFun (if_pos hl) σ⟩
 ·rw [if_neg hl] at ne;exact absurd rfl ne
inductive A0:Flow→Value→Prop
 |next:A0 .next .none
 |ret (v:Value):A0 (.ret v) v
theorem SQ.out {A:Around}{env:PySem.Env}{m:M (Out×Ev)}{f:Flow}{s':Shared}(q:SQ c A₀ A env Γ₀ σ₀ s₀ (m σ₀) f s')(ne:(m>>=fun r=>xY r.1) σ₀≠.stuck):∃v,A0 f v∧gF c A₀ Γ₀ σ₀ s₀ (RV c (ai A₀)) ((m>>=fun r=>xY r.1) σ₀) v s':=by
 obtain ⟨o,L',σ',a0,e1,P',fl⟩:=q;have e2:=M.aZ (f:=fun r=>xY r.1) e1
 induction o with
 |next=>cases (show f=.next from fl);exact ⟨_,.next,_,σ',e2,a0,P'.same,P'.st,P'.step,fG Rep.me⟩
 |cont=>exact absurd e2 ne
 |ret t k=>induction (show mI c A₀ s₀ a0 σ' s'.heap (t,k) f from fl) with
  |mk v r=>exact ⟨_,.ret v,_,σ',e2,a0,P'.same,P'.st,P'.step,r⟩
theorem A1 {I:mJ}{fa:Addr}{ts:List T}{vals:List Value}{cS:Bool}{cd:Value}{qn:Str}(F:Facts c)(X:FnAt c I fa cd qn)(ok:M3 I)(P:Pre c A₀ (Inv.top _) Γ₀ σ₀ s₀)(rl:az c Γ₀ ts vals)(room:A₀.depth < recursionLimit)
  (hb:∀env,u5 I env→env.code=cd→env.qual=qn++".<locals>."→gp prog c A₀ (A₀.deeper env) env (fun L=>ak G I.body L) (execs I.body env))
  (ne:fF G cS ⟨I.params,I.body⟩ ts σ₀≠.stuck):
  wpAny (model prog c.w) A₀ (call (.ref fa) vals) (gF c A₀ Γ₀ σ₀ s₀ (RV c (ai A₀)) (fF G cS ⟨I.params,I.body⟩ ts σ₀)) (mK c A₀ Γ₀ σ₀ s₀ (fF G cS ⟨I.params,I.body⟩ ts σ₀)) s₀:=by
 obtain ⟨o,fd,h1,h2,h3,h4,h5,h6,h7,h8,OV,Qj,h9⟩:=X.at_;have kp:=P.st.kept;obtain ⟨hl,er⟩:=yt ne;rw [er] at ne ⊢;have hlen:I.params.length=vals.length:=hl.trans rl.length.symm;refine wpAny_call (codeAny_call_function room (kp _ _ h1) h2 (by rw [h4];exact ok.co) (by rw [h4];exact ok.gen) h3 ?_ (h9 s₀ vals kp hlen.symm _ _ _ _ ?_))
 ·obtain ⟨c',oc,vs,tq,q1,q2,q3⟩:=h8;exact ⟨c',oc,vs,tq,q1,kp _ _ q2,q3⟩
 rw [h4,h5,h6,h7];refine wpAny_newFunctionEnv_cells ok.kind (fun p hp=>(ok.par p.1 (List.of_mem_zip hp).1).imp id fun q=>⟨q,cellsFrom_some _ _ _ (.inl q)⟩) fun env he s x=>?_
 have N:yr I s₀ env:=by rw [he];exact ⟨rfl,rfl,rfl,rfl,rfl,rfl⟩
 have SP:=enter (A₀:=A₀) ok P rl hlen (ew I.body) cS N x;refine ⟨F.nolimit.keeps fun b o e=>x.toInCall.keep _ _ (kp b o e),codeAny_func ?_⟩;exact wpAny_mono (hb env ⟨N.scope,fun y hy=>N.cell hy⟩ (by rw [he];exact OV) (by rw [he,←Qj];rfl) _ _ _ _ _ _ _ SP (M.aT ne)) (fun f s' q=>by obtain ⟨v,fv,y⟩:=q.out ne;induction fv<;>exact y) fun e s' q=>
  wpAny_mono (SE.HC (E:=fun _ _=>False) SP q) (fun _ MW q'=>q'.cast fun m σ' e=>M.cU e) fun _ _ f=>f.elim
end
end Mine.Internal
end
section
namespace Mine.Internal
open PySem PySem.W PyProof.Rows PySem.SeqAt PySem.Builtin PySem.Builtin.ObjectAttr
structure C5 (K:Frag) (C:Addr) (ns:List Str):Prop where
 sa:findIn K (.ref C) "__setattr__"=some (some (.builtin "object.__setattr__"))
 cd:∃cd,clsIn K C=some cd∧cd.hasDict=true∧cd.mro.isEmpty=false∧cd.mro.contains (.type "object")=true∧∀self,refuseLoop self "__setattr__" cd.mro=pure ()
 tk:∀n∈ns,takerIn K C n=some none
section
variable {prog:Program}{w:World}{A:Around}{E:Value→Shared→Prop}{s:Shared}{K:Frag}{C x dx:Addr}{ns:List Str}{name:Str}{v:Value}
theorem s8 {ox:Obj}{Q:Unit→Shared→Prop}(X:K.In s.heap)(f:C5 K C ns)(hn:name∈ns)(hx:s.heap.get? x=some ox)(hc:ox.cls=.ref C)
  (h:∀tk b,wpAny (model prog w) A.in1 (storeInOwnDict (.ref x) (.ref C) (.str name tk) name v b) (fun fin s'=>fin=.done (.ret .none)∧Q () s') E {s with toks:=s.toks+1}):
  wpAny (model prog w) A (setAttr (.ref x) name v) Q E s:=by
 have SF:=PySem.F.store_object;obtain ⟨cd,c1,c2,c3,c4,c5⟩:=f.cd;have ty:Looks (model prog w) s.heap (typeOf (.ref x)) (.ref C):=hc▸(Looks.ld hx).andThen .now;have sub:Looks (model prog w) s.heap (isInstance (.ref x) (.type "object")) true:=ty.andThen (looks_mroIn X (by unfold mroIn;rw [c1,Option.bind_some,if_neg (by rw [c3];decide),c4]));have mro:Looks (model prog w) s.heap (mroOf (.ref C)) cd.mro:=(looks_clsIn X c1).andThen .now;obtain ⟨attr,ha,hr⟩:=Option.bind_eq_some_iff.mp (f.tk name hn)
 have Kg:Looks (model prog w) s.heap (storeTaker? attr) none:=by
  induction attr with
  |none=>exact .now
  |some a=>
   obtain ⟨b,hb,e⟩:=Option.map_eq_some_iff.mp hr;refine (looks_takesIn X hb).andThen ?_
   induction b with
   |true=>exact Jx e
   |false=>exact .now
 have entry:∀tk,codeAny (model prog w) A (.call (.builtin "object.__setattr__") ⟨[.ref x,.str name tk,v],[]⟩) (fun r s'=>match r with|.ok (.ret _)=>Q () s'|.ok _=>False|.error e=>E e s') {s with toks:=s.toks+1}:=by
  intro tk
  have look:∀{α:Type} {t:Sem α} {r:α} {Q':α→Shared→Prop} {E':Value→Shared→Prop} {A':Around},Looks (model prog w) s.heap t r→Q' r {s with toks:=s.toks+1}→wpAny (model prog w) A' t Q' E' {s with toks:=s.toks+1}:=
   fun L q=>L _ _ _ _ (fun _ _ e=>e) q
  refine codeAny_call_builtin SF.slot.plain SF.entry (@check_slot (model prog w) _ _ {s with toks:=s.toks+1} "object.__setattr__" "object" "__setattr__" (.ref x) [.str name tk,v] [] _ SF.kind SF.split sub (SF.args (.ref x) (.str name tk) v) ?_);rw [osa_eq,refuse_eq];refine wpAny_bind (wpAny_bind (look ty (wpAny_bind (look mro ?_))));rw [c5];refine wpAny_pure (wpAny_bind (look ty (wpAny_bind (look (looks_findIn X ha) (wpAny_bind (look Kg ?_))))));exact wpAny_mono (h tk _) (fun fin s' q=>by obtain ⟨rfl,q⟩:=q;exact q) fun _ _ q=>q
 refine wpAny_bind (wpAny_mkText (wpAny_bind (wpAny_bind (wpAny_bind (ty _ _ _ _ (fun _ _ e=>e) (looks_findIn X f.sa _ _ _ _ (fun _ _ e=>e) (wpAny_holding ?_)))))));rw [SF.slot.bind];refine wpAny_bind (wpAny_pure (wpAny_bind (wpAny_call (codeAny_mono (entry _) fun r s' z=>?_))));rcases r with e|(v|_|_|_)<;>first|exact z|exact wpAny_pure (wpAny_pure z)
theorem s9 {name:Str}{hs:Int}{key v:Value}:∀l:List DictEntry,(putL name hs key v l).length≤l.length+1
 |[]=>Nat.le_refl _
 |e::l=>by
  unfold putL;split
  ·exact Nat.le_succ _
  ·exact Nat.succ_le_succ (s9 l)
set_option tactic.hygienic true in
theorem tc {es:List DictEntry}{n:Nat}{Q:Fin→Shared→Prop}{tk:Tok}(hd:s.heap.get? dx=some (dictOf es n))(hl:(getL name es).isSome=true)(hz:es.length≤1000)
  (h:∀h',h'.get? dx=some (dictOf (putL name (PyData.keyHash w.params name) (.str name s.toks) v es) (putN name es n))→Heap.SameBut dx s.heap h'→Q (.done (.ret .none)) {s with heap:=h',toks:=s.toks+1}):
  wpAny (model prog w) A (storeInDict dx (.str name tk) name v) Q E s:=by
 have c:aRefKeyMayBeTheName name es.toArray=false:=by
  rw [aRefKeyMayBeTheName_at];rw [←Array.any_toList,←Array.any_toList];unfold getL at hl;split at hl
  ·rename_i en he;rw [List.any_eq_true.mpr ⟨en,List.mem_of_find?_eq_some he,List.find?_some he⟩];rfl
  ·split at hl
   ·exact d9 hl
   ·rename_i z;rw [Bool.not_eq_true] at z;rw [z,Bool.and_false]
 have D':(s.heap.update dx (Obj.putName name (PyData.keyHash w.params name) (.str name s.toks) v)).get? dx=some (dictOf (putL name (PyData.keyHash w.params name) (.str name s.toks) v es) (putN name es n)):=by
  rw [Heap.get?_update_self _ hd (by rw [putName_dict];rfl),putName_dict]
 skip
 refine wpAny_bind (wpAny_pure (wpAny_bind ?_))
 skip
 refine wpAny_bind (wpAny_bind (wpAny_askSetting (wpAny_pure (wpAny_bind (wpAny_mkText (wpAny_bind (wpAny_loadPart hd ?_)))))));dsimp only;rw [c];refine wpAny_updatePart hd ?_;refine wpAny_bind (wpAny_lookBehind D' (pastItsLine_dict (Nat.le_trans (s9 es) (Nat.succ_le_succ (Nat.le_trans hz (by rw [bC];decide))))) ?_);exact wpAny_pure (h _ D' (Heap.SameBut.update ..))
theorem n6 {es:List DictEntry}{n:Nat}{Q:Unit→Shared→Prop}(X:K.In s.heap)(f:C5 K C ns)(hn:name∈ns)(hx:s.heap.get? x=some (instObj C dx))(hd:s.heap.get? dx=some (dictOf es n))(hl:(getL name es).isSome=true)(hz:es.length≤1000)
  (h:∀h' tk t,h'.get? dx=some (dictOf (putL name (PyData.keyHash w.params name) (.str name t) v es) (putN name es n))→Heap.SameBut dx s.heap h'→Q () {s with heap:=h',toks:=tk}):
  wpAny (model prog w) A (setAttr (.ref x) name v) Q E s:=by
 refine s8 X f hn hx rfl fun tk b=>?_
 obtain ⟨cd,c1,c2,_⟩:=f.cd;refine wpAny_bind (wpAny_pure (wpAny_bind (wpAny_bind (wpAny_loadPart hx (wpAny_bind (looks_clsIn (M:=model prog w) X c1 _ _ _ _ (fun _ _ e=>e) ?_))))));rw [c2];refine wpAny_pure (a:=some dx) (wpAny_bind (wpAny_pure ?_));exact tc (s:={s with toks:=s.toks+1}) (tk:=tk) hd hl hz fun h' q1 q2=>⟨rfl,h h' _ _ q1 q2⟩
theorem yu {ox:Obj}{vs:Array Value}{Q:Unit→Shared→Prop}(X:K.In s.heap)(f:C5 K C ns)(hn:name∈ns)(hx:s.heap.get? x=some ox)(hc:ox.cls=.ref C)(ho:ox.dict=none)(Kh:ox.data=.fields vs)
  (h:∀h' tk t,h'.get? x=some {ox with dict:=some s.heap.objs.size}→h'.get? s.heap.objs.size=some (dictOf [⟨PyData.keyHash w.params name,.str name t,v⟩] 1)→(∀b o,b≠x→s.heap.get? b=some o→h'.get? b=some o)→Q () {s with heap:=h',toks:=tk}):
  wpAny (model prog w) A (setAttr (.ref x) name v) Q E s:=by
 refine s8 X f hn hx hc fun tk b=>?_
 obtain ⟨cd,c1,c2,_⟩:=f.cd;obtain ⟨oc,od,Rw,Qk⟩:=ox;dsimp only at hc ho Kh;subst hc ho Kh;have jf:x≠s.heap.objs.size:=Nat.ne_of_lt (Heap.lt_size hx);have Ki:=aL (o:={cls:=.type "dict",data:=.dict #[]}) _ _ hx;refine wpAny_bind (wpAny_pure (wpAny_bind (wpAny_bind (wpAny_loadPart hx (wpAny_bind (looks_clsIn (M:=model prog w) X c1 _ _ _ _ (fun _ _ e=>e) ?_))))));rw [c2];refine wpAny_bind (wpAny_alloc (wpAny_bind (wpAny_update Ki (wpAny_pure (a:=some s.heap.objs.size) ?_))));have Ql:((s.heap.push {cls:=.type "dict",data:=.dict #[]}).update x fun o=>{o with dict:=some s.heap.objs.size}).get? x=some {cls:=.ref C,dict:=some s.heap.objs.size,data:=.fields vs,slots:=Qk}:=Heap.get?_update_self _ Ki rfl
 have hd2:((s.heap.push {cls:=.type "dict",data:=.dict #[]}).update x fun o=>{o with dict:=some s.heap.objs.size}).get? s.heap.objs.size=some (dictOf [] 0):=
  (Heap.get?_update_other _ _ jf).trans (Heap.get?_push_size _ rfl)
 refine tc (s:={s with heap:=(s.heap.push {cls:=.type "dict",data:=.dict #[]}).update x fun o=>{o with dict:=some s.heap.objs.size},toks:=s.toks+1}) (tk:=tk) (es:=[]) (n:=0) hd2 rfl (by decide) fun h' q1 q2=>⟨rfl,h h' _ _ ?_ q1 fun b o hb e=>?_⟩
 ·exact (q2.2 x jf).trans Ql
 ·exact (q2.2 b (Nat.ne_of_lt (Heap.lt_size e))).trans ((Heap.get?_update_other _ _ hb.symm).trans (aL _ _ e))
end
end Mine.Internal
end
section
namespace Mine.Internal
open PySem PySem.W PyProof.Rows PySem.SeqAt
inductive IE where
 |name (x:Str)|bool (b:Bool)|none|str (x:Str)
noncomputable def yv:Expr→Option IE
 |.Name x _=>if x == "__debug__" then .none else some (.name x)
 |.Constant c _ _=>(match c with
  |.bool b=>some (.bool b)
  |.none=>some .none
  |.str x=>some (.str x)
  |_=>Option.none)
 |_=>Option.none
noncomputable def ez:Expr→Option Str
 |.Attribute o a _=>(match optName o with
  |some z=>if z == "self" then some a else none
  |none=>none)
 |_=>none
noncomputable def qY:Stmt→Option (Str×IE)
 |.Assign ts e _=>(match ts with
  |[t]=>(match ez t with
   |some a=>(match yv e with
    |some i=>some (a,i)
    |Option.none=>Option.none)
   |Option.none=>Option.none)
  |_=>Option.none)
 |_=>Option.none
noncomputable def n7:List Stmt→Option (List (Str×IE))
 |[]=>some []
 |s::r=>match qY s with
  |some p=>(match n7 r with
   |some l=>some (p::l)
   |Option.none=>Option.none)
  |Option.none=>Option.none
inductive HM:Expr→Option IE→Prop
 |name (x:Str) (p:Pos) (h:(x == "__debug__")=false):HM (.Name x p) (some (.name x))
 |bool (b:Bool) (k:Nat) (p:Pos):HM (.Constant (.bool b) k p) (some (.bool b))
 |none (k:Nat) (p:Pos):HM (.Constant .none k p) (some .none)
 |str (x:Str) (k:Nat) (p:Pos):HM (.Constant (.str x) k p) (some (.str x))
 |no (e:Expr):HM e Option.none
theorem A2 (e:Expr):HM e (yv e):=by
 cases e with
 |Name x p=>
  show HM _ (if (x == "__debug__")=true then Option.none else some (.name x));by_cases h:(x == "__debug__")=true
  ·rw [if_pos h];exact .no _
  ·rw [if_neg h];exact .name x p (Bool.eq_false_iff.mpr h)
 |Constant c k p=>induction c with
  |bool b=>exact .bool b k p
  |none=>exact .none k p
  |str x=>exact .str x k p
  |_=>exact .no _
 |_=>exact .no _
inductive w9:Expr→Option Str→Prop
 |mk (a:Str) (p1 p2:Pos):w9 (.Attribute (.Name "self" p1) a p2) (some a)
 |no (t:Expr):w9 t none
theorem A3 (t:Expr):w9 t (ez t):=by
 cases t with
 |Attribute o b p=>cases o with
  |Name z q=>
   show w9 _ (if (z == "self")=true then some b else none);by_cases hz:(z == "self")=true
   ·rw [if_pos hz];cases (LawfulBEq.eq_of_beq hz:z="self");exact .mk ..
   ·rw [if_neg hz];exact .no _
  |_=>exact .no _
 |_=>exact .no _
inductive xa:Stmt→Option (Str×IE)→Prop
 |mk (t e:Expr) (p:Pos) (a:Str) (i:IE) (h:ez t=some a) (h':yv e=some i):xa (.Assign [t] e p) (some (a,i))
 |no (s:Stmt):xa s none
theorem A4 (s:Stmt):xa s (qY s):=by
 cases s with
 |Assign ts e p=>cases ts with
  |nil=>exact .no _
  |cons t r=>induction r with
   |cons=>exact .no _
   |nil=>
    show xa _ (match ez t with
     |some a=>(match yv e with
      |some i=>some (a,i)
      |Option.none=>Option.none)
     |Option.none=>Option.none)
    induction h1:ez t with
    |none=>exact .no _
    |some a=>
     skip
     induction h2:yv e with
     |none=>exact .no _
     |some i=>exact .mk t e p a i h1 h2
 |_=>exact .no _
def IV (m:Str→Option Value):IE→Value→Prop
 |.name x=>fun v=>m x=some v
 |.bool b=>fun v=>v=.bool b
 |.none=>fun v=>v=.none
 |.str x=>rX x
inductive HN (w:World) (a:Str) (p:Value→Prop) (q:List DictEntry→Prop):List DictEntry→Prop
 |mk (t:Tok) (v:Value) (es:List DictEntry) (h:p v) (h':q es):HN w a p q (⟨PyData.keyHash w.params a,.str a t,v⟩::es)
def yw (w:World)(m:Str→Option Value):List (Str×IE)→List DictEntry→Prop
 |[]=>fun es=>es=[]
 |(a,i)::r=>HN w a (IV m i) (yw w m r)
def xc (name:Str)(es:List DictEntry):Prop:=∀e∈es,∃k t,e.key=.str k t∧k≠name
theorem n9 {e:DictEntry}{name:Str}(h:∃k t,e.key=.str k t∧k≠name):e.key.isStr name=false∧e.refKey=false:=by
 obtain ⟨k,t,e1,e2⟩:=h;constructor
 ·rw [e1];simpa [Value.isStr] using e2
 ·unfold DictEntry.refKey;rw [e1]
theorem putL_new {name:Str}{hs:Int}{key v:Value}:∀{es:List DictEntry},xc name es→putL name hs key v es=es++[⟨hs,key,v⟩]
 |[],_=>rfl
 |e::es,h=>by
  unfold putL;rw [(n9 (h e (.head _))).1];exact congrArg (e::·) (putL_new fun e he=>h e (.tail _ he))
theorem td {name:Str}{n:Nat}:∀{es:List DictEntry},xc name es→putN name es n=n+1
 |[],_=>rfl
 |e::es,h=>by
  have:=td (n:=n) fun e he=>h e (.tail _ he)
  unfold putN at this ⊢;rw [List.any_cons,(n9 (h e (.head _))).1,Bool.false_or];exact this
theorem te {name:Str}:∀{es:List DictEntry},xc name es→(getL name es).isSome=true
 |[],_=>rfl
 |e::es,h=>by
  have h3:=te fun e he=>h e (.tail _ he)
  have q:=n9 (h e (.head _));unfold getL at h3 ⊢;rw [List.find?_cons_of_neg (by rw [q.1];exact Bool.false_ne_true),List.any_cons,q.2,Bool.false_or];exact h3
section
variable {prog:Program}{w:World}{A:Around}{E:Value→Shared→Prop}{K:Frag}{C x dx:Addr}{ns:List Str}{env:PySem.Env}{m:Str→Option Value}{s:Shared}
theorem HO {e:Expr}{i:IE}{Q:Value→Shared→Prop}(hk:env.scope.kind=.function)(hn:s.heap.Ns env.locals m)(hi:yv e=some i)(hv:∀y,i=.name y→env.kindOf y=some .local∧∃v,m y=some v)(q:∀v tk,IV m i v→Q v {s with toks:=tk}):wpAny (model prog w) A (eval e env) Q E s:=by
 have z:=A2 e;rw [hi] at z
 cases z with
 |name y p hd=>
  obtain ⟨Qm,v,OW⟩:=hv _ rfl;exact wpAny_Name (wpAny_loadName_local hk Qm hn OW (q v s.toks OW)) hd
 |bool=>exact wpAny_Constant_bool (q _ s.toks rfl)
 |none=>exact wpAny_Constant_none (q _ s.toks rfl)
 |str=>exact wpAny_Constant_str (q _ _ (rX.mk _))
inductive Gr (w:World) (m:Str→Option Value) (dx:Addr) (as:List (Str×IE)) (es:List DictEntry) (n:Nat) (s:Shared):Flow→Shared→Prop
 |mk (h':Heap) (tk:Nat) (lg:List DictEntry) (e:h'.get? dx=some (dictOf (es++lg) (n+as.length))) (r:yw w m as lg) (k:∀b,b≠dx→h'.get? b=s.heap.get? b):Gr w m dx as es n s .next {s with heap:=h',toks:=tk}
structure mR (K:Frag) (C:Addr) (ns:List Str) (x dx:Addr) (env:PySem.Env) (m:Str→Option Value) (h:Heap):Prop where
 X:K.In h
 f:C5 K C ns
 hx:h.get? x=some (instObj C dx)
 LU:x≠dx
 hK:K.lookup dx=none
 hn:h.Ns env.locals m
theorem mR.but {h h':Heap}(I:mR K C ns x dx env m h)(LV:env.locals≠dx)(sb:Heap.SameBut dx h h'):mR K C ns x dx env m h':=
 ⟨fun b o e=>(sb.2 b (fun q=>by subst q;exact bR (I.hK.symm.trans e))).trans (I.X b o e),I.f,(sb.2 x I.LU).trans I.hx,I.LU,I.hK,I.hn.sameBut sb LV⟩
theorem tf (hk:env.scope.kind=.function)(Gs:env.kindOf "self"=some .local)(ms:m "self"=some (.ref x))(LV:env.locals≠dx):∀{body:List Stmt} {as:List (Str×IE)} {es:List DictEntry} {n:Nat} {s:Shared},n7 body=some as→
  (∀p∈as,p.1∈ns∧∀y,p.2=.name y→env.kindOf y=some .local∧∃v,m y=some v)→(as.map (·.1)).Nodup→(∀p∈as,xc p.1 es)→es.length+as.length≤1000→
  mR K C ns x dx env m s.heap→s.heap.get? dx=some (dictOf es n)→wpAny (model prog w) A (execs body env) (Gr w m dx as es n s) E s
 |[],as,es,n,s,h,_,_,_,_,_,hd=>by
  induction Option.some.inj h;exact wpAny_execs_nil (.mk s.heap s.toks [] (by rw [List.append_nil];exact hd) rfl fun _ _=>rfl)
 |st::body,as,es,n,s,h,hv,nd,OX,hz,I,hd=>by
  have h:(match qY st with
   |some p=>(match n7 body with
    |some l=>some (p::l)
    |Option.none=>Option.none)
   |Option.none=>Option.none)=some as:=h
  induction h1:qY st with
  |none=>rw [h1] at h;exact bR h
  |some p=>
   rw [h1] at h
   induction hl:n7 body with
   |none=>rw [hl] at h;exact bR h
   |some l=>
    rw [hl] at h;cases h;have w:=A4 st;rw [h1] at w
    cases w with
    |mk t e p a i ht hi=>
    have w:=A3 t;rw [ht] at w
    cases w with
    |mk _ p1 p2=>
    have OY:=hv (a,i) (.head _);refine (List.nodup_cons.mp nd).elim fun n1 n2=>?_
    have hz:es.length+(l.length+1)≤1000:=hz;have nk:=OX (a,i) (.head _);refine wpAny_execs_cons (plainObj_wpAny_Assign_Attribute (HO hk I.hn hi OY.2 fun v tk Qn=>?_) ?_)
    ·refine wpAny_Name (wpAny_loadName_local hk Gs (s:={s with toks:=tk}) I.hn ms ?_) (by decide);refine n6 (s:={s with toks:=tk}) I.X I.f OY.1 I.hx hd (te nk) (Nat.le_trans (Nat.le_add_right _ _) hz) fun h' LN t OZ sb=>?_
     rw [putL_new nk,td nk] at OZ;refine wpAny_mono (tf (s:={s with heap:=h',toks:=LN}) hk Gs ms LV hl (fun p hp=>hv p (.tail _ hp)) n2 (fun p hp=>List.forall_mem_append.mpr ⟨OX p (.tail _ hp),aY ⟨a,t,rfl,fun q=>n1 (List.mem_map.mpr ⟨p,hp,q.symm⟩)⟩⟩) (by rw [List.length_append,List.length_singleton,Nat.add_assoc,Nat.add_comm 1];exact hz) (I.but LV sb) OZ) (fun fl s' q=>?_) fun _ _ q=>q
     induction q with|mk Jb M4 lg q1 q2 q3=>?_
     exact .mk Jb M4 (⟨PyData.keyHash w.params a,.str a t,v⟩::lg) (by rw [q1,List.append_assoc,Nat.add_assoc,Nat.add_comm 1];rfl) (HN.mk t v lg Qn q2) fun b hb=>(q3 b hb).trans (sb.2 b hb)
    ·have z:=A2 e;rw [hi] at z;cases z<;>rfl
end
theorem xd (G:Calls)(L:Ev):∀es:List Expr,zP (gP G L es)=br G L es
 |[]=>rfl
 |e::es=>by
  show (ag G L e>>=fun t=>solid t>>=fun t=>zP (gP G L es)>>=fun ts=>(pure (t::ts):M (List (T×Kd))))=_;rw [xd G L es];rfl
noncomputable def lD (as:List Expr):Bool:=!gO as
theorem dH {G:Calls}{L:Ev}{f:Str}{np pos:Pos}{as:List Expr}(h:lD as=true):ag G L (.Call (.Name f np) as [] pos)=gD G L f as (gP G L as):=by
 cases as with
 |nil=>rfl
 |cons a r=>induction r with
  |cons=>rfl
  |nil=>cases a with
   |Lambda=>exact d9 h
   |_=>rfl
theorem dq {G:Calls}{L:Ev}{f:Str}{as:List Expr}(h1:f≠"len")(h2:f≠"isinstance"):gD G L f as (gP G L as)=(br G L as>>=fun ts=>l8 G f ts):=by
 rw [←xd];exact (if_neg h1).trans (if_neg h2)
def lE (M:Model)(K:Frag)(fv:Value):Prop:=∀h,K.In h→∃k,(k=Keeper.frame∨k=Keeper.machine∨k=Keeper.boundFrame)∧Looks M h (keeperOf fv) k
theorem kE {M:Model}{K:Frag}{fv:Value}(h:keepIn K fv=true):lE M K fv:=fun hp X=>keeps_K h hp X
theorem gY {M:Model}{K:Frag}{id:String}:lE M K (.builtin id):=fun _ _=>⟨.machine,.inr (.inl rfl),Looks.of_pure rfl⟩
theorem jg {M:Model}{K:Frag}{id:String}:lE M K (.type id):=fun _ _=>⟨.machine,.inr (.inl rfl),Looks.of_pure rfl⟩
section
variable {prog:Program}{c:Cx}{A:Around}{I:Inv (ai A)}{env:PySem.Env}{L:Ev}{G:Calls}
def og (prog:Program)(c:Cx)(A:Around)(env:PySem.Env)(f:Str)(fv:Value):Prop:=
 ∀{I:Inv (ai A)} {Γ:Gh} {σ:Sg} {s:Shared} (np:Pos) (E:Value→Shared→Prop) (Q:Value→Shared→Prop),(∃old L,gS c old Γ s.heap (ai A) env L)→Pre c A I Γ σ s→Q fv s→wpAny (model prog c.w) A (eval (.Name f np) env) Q E s
theorem dR {f:Str}{fv:Value}(F:Facts c)(hk:env.kindOf f=some .globalImplicit)(hd:(f == ("__debug__":Str))=false)(hv:c.mg f=some fv):og prog c A env f fv:=by
 intro I Γ σ s np E Q ⟨old,L,ER⟩ P q;exact lj ER.kind hk (mg:=c.mg) (by rw [ER.glob];exact F.g.keeps P.st.kept) hv hd q
theorem gZ {f:Str}{fv:Value}(F:Facts c)(hk:env.kindOf f=some .globalImplicit)(hd:(f == ("__debug__":Str))=false)(hm:(f,fv)∈bF):og prog c A env f fv:=by
 intro I Γ σ s np E Q ⟨old,L,ER⟩ P q;exact z0 ER.kind hk (mg:=c.mg) (by rw [ER.glob];exact F.g.keeps P.st.kept) (F.blt _ hm).1 (by rw [ER.blt];exact F.b.keeps P.st.kept) (F.blt _ hm).2 hd q
theorem pT {old:Heap}{f:Str}{fv:Value}{np pos:Pos}{as:List Expr}{β:Type}{R:Heap→Gh→Sg→Heap→β→List Value→Prop}{tg:M β}{k:β→M (T×Kd)}(F:Facts c)(hn:og prog c A env f fv)
  (hs:∀e∈as,noStar e=true) (ko:lE (model prog c.w) c.K fv) (ha:aC prog c A (cg c old (ai A) env L) R tg (spliced (backTo pos (starEach as env))))
  (hk:∀{Γ:Gh} {σ:Sg} {s:Shared} {pre:Heap} {b:β} {vs:List Value},Pre c A (cg c old (ai A) env L) Γ σ s→R pre Γ σ s.heap b vs→k b σ≠.stuck→
   (∀x o,pre.get? x=some o→∃o',s.heap.get? x=some o')→Wp prog c A (fun _=>RV c (ai A) pre) Γ σ s (k b σ) (call fv vs) s):
  aC prog c A (cg c old (ai A) env L) (RV c (ai A)) (tg>>=k) (eval (.Call (.Name f np) as [] pos) env):=by
 intro Γ σ s P ne;rw [arm_eval_Call_Name'];refine wpAny_bind (hn np _ _ ⟨old,L,P.inv⟩ P (callWith_of (P:=fun h=>c.K.In h) (first:=[]) (by show ((backTo pos (starEach as env)).any (·.1)||false)=false;rw [dD hs];rfl) ko (aC.args hs (seq (f:=k) P ne ha fun b aa af vs s₁ _ y1 y2 ao r ne1 e1=>?_))));refine ⟨F.rR.keeps ao.st.kept,Wp.of e1 (wpAny_mono (hk ao r ne1 y2.alive) (fun v s' q=>?_) fun _ _ q=>q.back P y1 y2)⟩;obtain ⟨a,σ',hr,a0,z1,z2,z3,z4⟩:=q;exact ⟨a,σ',hr,a0,y1.trans z1,z2,Step.trans P.st y2 z3,z4⟩
theorem call_plain {old:Heap}{f:Str}{fv:Value}{np pos:Pos}{as:List Expr}{β:Type}{R:Heap→Gh→Sg→Heap→β→List Value→Prop}{tg:M β}{k:β→M (T×Kd)}(F:Facts c)(hn:og prog c A env f fv)
  (hs:∀e∈as,noStar e=true) (ko:lE (model prog c.w) c.K fv) (ha:aC prog c A (cg c old (ai A) env L) R tg (spliced (backTo pos (starEach as env))))
  (hk:∀{Γ:Gh} {σ:Sg} {s:Shared} {pre:Heap} {b:β} {vs:List Value},Pre c A (cg c old (ai A) env L) Γ σ s→R pre Γ σ s.heap b vs→k b σ≠.stuck→Wp prog c A (RV c (ai A)) Γ σ s (k b σ) (call fv vs) s):
  aC prog c A (cg c old (ai A) env L) (RV c (ai A)) (tg>>=k) (eval (.Call (.Name f np) as [] pos) env):=
 pT F hn hs ko ha fun P r ne al=>wpAny_mono (hk P r ne) (fun v s' q=>by
  obtain ⟨a,σ',hr,a0,z1,z2,z3,z4⟩:=q;exact ⟨a,σ',hr,a0,z1,z2,z3,bu _ _ _ _ _ _ _ al z4⟩) fun _ _ q=>q
structure Kj (f:Str):Prop where
 d:(f == ("__debug__":Str))=false
 i:f≠"isinstance"
 n:¬(f="Null"∨f="Vector")
theorem M5:∀f∈builtins,Kj f:=
 have k:∀f:Str,((f == ("__debug__":Str))=false∧f≠"isinstance"∧¬(f="Null"∨f="Vector"))→Kj f:=fun f q=>⟨q.1,q.2.1,q.2.2⟩
 List.forall_mem_cons.mpr ⟨k _ (by decide),List.forall_mem_cons.mpr ⟨k _ (by decide),List.forall_mem_cons.mpr ⟨k _ (by decide),List.forall_mem_cons.mpr ⟨k _ (by decide),List.forall_mem_cons.mpr ⟨k _ (by decide),List.forall_mem_cons.mpr ⟨k _ (by decide),aY (k _ (by decide))⟩⟩⟩⟩⟩⟩
theorem A5 {M:Model}{K:Frag}{f:Str}{fv:Value}(x:pb f fv):lE M K fv:=by
 induction x with
 |str=>exact jg
 |list=>exact jg
 |dict=>exact jg
 |range=>exact jg
 |_=>exact gY
theorem u7 {f:Str}{fv:Value}{us:List T}{vs:List Value}{Γ:Gh}{σ:Sg}{s:Shared}(F:Facts c)(P:Pre c A I Γ σ s)(hm:(f,fv)∈bF)(r:az c Γ us vs)(ne:dX f us σ≠.stuck):Wp prog c A (RV c (ai A)) Γ σ s (dX f us σ) (call fv vs) s:=by
 cases us with
 |nil=>exact absurd rfl ne
 |cons t us=>
  induction r with|mk v w rv r1=>?_
  cases us with
  |nil=>
   cases (show _=[] from r1);exact sF F P (DG hm t σ) rv ne
  |cons t' us=>
   induction r1 with|mk v' w' Qo r2=>?_
   induction us with
   |nil=>
    cases (show _=[] from r2);exact sG P (DH hm t t' σ) rv Qo ne
   |cons=>exact absurd rfl ne
theorem aC.qZ {old:Heap}{f:Str}{fv:Value}{np pos:Pos}{as:List Expr}(F:Facts c)(hm:(f,fv)∈bF)(hk:env.kindOf f=some .globalImplicit)(hf:f∈builtins)(h1:f≠"len")
  (hs:∀e∈as,noStar e=true) (hl:lD as=true) (ha:∀p,aC prog c A (cg c old (ai A) env L) (zC c) (br G L as) (spliced (backTo p (starEach as env)))):
  aC prog c A (cg c old (ai A) env L) (RV c (ai A)) (ag G L (.Call (.Name f np) as [] pos)) (eval (.Call (.Name f np) as [] pos) env):=by
 have N:=M5 f hf;rw [dH hl,dq h1 N.i];refine call_plain F (gZ F hk N.d hm) hs (A5 (nN _ hm)) (ha pos) fun {Γ σ s pre ts vs} P r ne=>?_
 have e0:l8 G f ts=dX f (ts.map (·.1)):=(if_neg N.n).trans (if_pos hf);rw [e0] at ne ⊢;exact u7 F P hm r.r ne
inductive xe (c:Cx) (G:Gh) (h:Heap) (t:T) (w:List Value):List Value→Prop
 |mk (v:Value) (r:Look c G h t v):xe c G h t w (v::w)
def A6 (w:List Value)(c:Cx)(pre:Heap)(G:Gh)(σ:Sg)(h:Heap)(t:T)(vs:List Value):Prop:=xe c G h t w vs
theorem aC.zM {e:Expr}{m:M T}{p:Pos}(hs:noStar e=true)(h:aC prog c A I (RL c) m (eval e env)):aC prog c A I (A6 [] c) m (spliced (backTo p (starEach [e] env))):=
 fun Γ σ s P ne=>wpAny_items_cons (wpAny_mono (h Γ σ s P ne) (fun v s' q=>by
  obtain ⟨a,σ',e,a0,y1,y2,y3,y4⟩:=q;exact wpAny_items_nil ⟨a,σ',e,a0,y1,y2,y3,.mk v y4⟩) fun _ _ q=>q) (bD hs)
theorem D0 {t:T}{σ:Sg}(ne:o5 t σ≠.stuck):∃r,o5 t σ=.ok r σ:=by
 have w:=wZ t σ;generalize o5 t σ=o at w ne
 induction w with
 |no=>exact absurd rfl ne
 |_=>exact ⟨_,rfl⟩
theorem A7 (n:Nat){p:Str×Value}(h:bF[n]?=some p):p∈bF:=List.mem_of_getElem? h
theorem aC.A8 {old:Heap}{e:Expr}{np pos:Pos}(F:Facts c)(hk:env.kindOf "len"=some .globalImplicit)(hs:noStar e=true)(hl:lD [e]=true)(h:aC prog c A (cg c old (ai A) env L) (RL c) (gC L e (ag G L e)) (eval e env)):
  aC prog c A (cg c old (ai A) env L) (RV c (ai A)) (ag G L (.Call (.Name "len" np) [e] [] pos)) (eval (.Call (.Name "len" np) [e] [] pos) env):=by
 rw [dH hl];refine call_plain (k:=fun t=>o5 t>>=val) F (gZ F hk (by decide) (fv:=.builtin "len") (A7 0 rfl)) (aY hs) gY (h.zM hs) fun {Γ σ s pre t vs} P r ne=>?_
 refine (D0 (M.aT ne)).elim fun r hr=>?_
 induction (show xe c Γ s.heap t [] vs from ‹_›) with
 |mk v lk=>exact Wp.of (M.aZ hr) (Hy P lk hr)
theorem aC.call_isinstance {old:Heap}{e:Expr}{n:Str}{cv:Value}{np cp pos:Pos}(F:Facts c)(hk:env.kindOf "isinstance"=some .globalImplicit)(hs:noStar e=true)(h:aC prog c A (cg c old (ai A) env L) (RL c) (gC L e (ag G L e)) (eval e env))
  (hc:og prog c A env n cv) (Qp:DK c n cv):
  aC prog c A (cg c old (ai A) env L) (RV c (ai A)) (ag G L (.Call (.Name "isinstance" np) [e,.Name n cp] [] pos)) (eval (.Call (.Name "isinstance" np) [e,.Name n cp] [] pos) env):=by
 have ha:aC prog c A (cg c old (ai A) env L) (A6 [cv] c) (gC L e (ag G L e)) (spliced (backTo pos (starEach [e,.Name n cp] env))):=
  fun Γ σ s P ne=>wpAny_items_cons (wpAny_mono (h Γ σ s P ne) (fun v s' q=>by
   obtain ⟨a,σ',e,a0,y1,y2,y3,y4⟩:=q;have P':=P.next y2 y3;exact wpAny_items_cons (hc cp _ _ ⟨old,L,P'.inv⟩ P' (wpAny_items_nil ⟨a,σ',e,a0,y1,y2,y3,.mk v y4⟩)) rfl) fun _ _ q=>q) (bD hs)
 rw [dH rfl];refine call_plain (k:=fun t=>nj n t) F (gZ F hk (by decide) (fv:=.builtin "isinstance") (A7 7 rfl)) (List.forall_mem_cons.mpr ⟨hs,aY rfl⟩) gY ha fun {Γ σ s pre t vs} P r ne=>?_
 induction (show xe c Γ s.heap t [cv] vs from r) with
 |mk v lk=>exact DL F P lk Qp ne
inductive O0 (prog:Program) (c:Cx) (A:Around) (G:Calls) (f:Str) (ts:List T) (vs:List Value) (Γ:Gh) (σ:Sg) (s:Shared):Prop
 |mk (fa:Addr) (e:c.mg f=some (.ref fa)) (h:Wp prog c A (RV c (ai A)) Γ σ s (G f ts σ) (call (.ref fa) vs) s):O0 prog c A G f ts vs Γ σ s
def M6 (prog:Program)(c:Cx)(A:Around)(G:Calls):Prop:=
 ∀f ts vs Γ σ s,Pre c A (Inv.top _) Γ σ s→az c Γ ts vs→G f ts σ≠.stuck→O0 prog c A G f ts vs Γ σ s
theorem aC.A9 {old:Heap}{f:Str}{fa:Addr}{np pos:Pos}{as:List Expr}(F:Facts c)(hG:M6 prog c A G)(hk:env.kindOf f=some .globalImplicit)(hd:(f == ("__debug__":Str))=false)(hm:c.mg f=some (.ref fa))(ko:keepIn c.K (.ref fa)=true)
  (h1:f∉builtins) (h2:f≠"isinstance") (h3:¬(f="Null"∨f="Vector"))
  (hs:∀e∈as,noStar e=true) (hl:lD as=true) (ha:∀p,aC prog c A (cg c old (ai A) env L) (zC c) (br G L as) (spliced (backTo p (starEach as env)))):
  aC prog c A (cg c old (ai A) env L) (RV c (ai A)) (ag G L (.Call (.Name f np) as [] pos)) (eval (.Call (.Name f np) as [] pos) env):=by
 rw [dH hl,dq (fun q=>h1 (by rw [q];exact .head _)) h2];refine call_plain F (dR F hk hd hm) hs (kE ko) (ha pos) fun {Γ σ s pre ts vs} P r ne=>?_
 have e0:l8 G f ts=G f (ts.map (·.1)):=(if_neg h3).trans (if_neg h1);rw [e0] at ne ⊢;obtain ⟨O1,q1,q2⟩:=hG f _ vs Γ σ s ⟨P.st,P.fr,trivial⟩ r.r ne;cases Option.some.inj (hm.symm.trans q1);exact q2
end
noncomputable def HP (n:Str):Stmt→Option mJ
 |.ClassDef m _ _ b ..=>if m=n then b.findSome? (pf "__init__") else none
 |_=>none
structure q0 (c:Cx) (I:mJ) (C:Addr) (k:Nat) (binds:Value→List Value→List (Str×Value)):Prop where
 at_:∃fI o fd,findIn c.K (.ref C) "__init__"=some (some (.ref fI))∧typeIn c.K (.ref fI)=some (.type "function")∧c.base.get? fI=some o∧o.data=.func fd∧fd.body=.stmts I.body∧fd.scope=I.scope∧fd.globals=mainGlobals∧fd.closure=[]∧
  fd.builtins=builtinsNs∧c.base.CodeRec fd.code fd.qualname∧∀(s:Shared) (x:Value) (vals:List Value),(∀b o,c.base.get? b=some o→s.heap.get? b=some o)→vals.length=k→BindsTo s fd ⟨x::vals,[]⟩ (binds x vals)
structure pU (I:mJ) (names:List Str) (as:List (Str×IE)):Prop where
 kind:I.scope.kind=.function
 co:I.scope.isCoroutine=false
 gen:I.scope.isGenerator=false
 cell:∀x∈I.scope.names,x.2≠.cell
 loc:∀x∈names,I.scope.names.lookup x=some .local
 Qq:n7 I.body=some as
 nd:(as.map (·.1)).Nodup
 vals:∀p∈as,∀y,p.2=.name y→y∈names
 self:("self":Str)∈names
 Qr:as.length≤100
section
variable {prog:Program}{c:Cx}{A:Around}{E:Value→Shared→Prop}{s:Shared}{C:Addr}
theorem Ba {I:mJ}{k:Nat}{binds:Value→List Value→List (Str×Value)}{names:List Str}{as:List (Str×IE)}{ns:List Str}{vals:List Value}{x dx fI:Addr}{R:Result→Shared→Prop}(F:Facts c)(kp:∀b o,c.base.get? b=some o→s.heap.get? b=some o)
  (ok:pU I names as) (st:C5 c.K C ns) (Gu:∀p∈as,p.1∈ns) (hk:vals.length=k) (bn:(binds (.ref x) vals).map (·.1)=names) (Bb:(binds (.ref x) vals).reverse.lookup ("self":Str)=some (.ref x)) (HQ:∀y∈names,∃v,(binds (.ref x) vals).reverse.lookup y=some v)
  (Qs:∃o fd,c.base.get? fI=some o∧o.data=.func fd∧fd.body=.stmts I.body∧fd.scope=I.scope∧fd.globals=mainGlobals∧fd.closure=[]∧fd.builtins=builtinsNs∧c.base.CodeRec fd.code fd.qualname∧∀(s:Shared) (x:Value) (vals:List Value),(∀b o,c.base.get? b=some o→s.heap.get? b=some o)→vals.length=k→BindsTo s fd ⟨x::vals,[]⟩ (binds x vals))
  (hx:s.heap.get? x=some (instObj C dx)) (hd:s.heap.get? dx=some (dictOf [] 0)) (LU:x≠dx) (hK:c.K.lookup dx=none) (room:A.depth < recursionLimit)
  (h:∀h' tk es,h'.get? dx=some (dictOf es as.length)→yw c.w (fun y=>(binds (.ref x) vals).reverse.lookup y) as es→(∀b o,b≠dx→s.heap.get? b=some o→h'.get? b=some o)→R (.ok (.ret .none)) {s with heap:=h',toks:=tk}):
  codeAny (model prog c.w) A (.call (.ref fI) ⟨.ref x::vals,[]⟩) R s:=by
 obtain ⟨o,fd,h1,h2,h3,h4,h5,h6,h7,h8,h9⟩:=Qs;have X:=F.rR.keeps kp;refine codeAny_call_function room (kp _ _ h1) h2 (by rw [h4];exact ok.co) (by rw [h4];exact ok.gen) h3 (h8.keeps kp) (h9 s (.ref x) vals kp hk _ _ _ _ ?_);rw [h4,h5,h6,h7];refine wpAny_newFunctionEnv ok.cell (fun p hp=>ok.loc _ ?_) (fun h₁ cY d4=>?_) ok.kind
 ·rw [←bn];exact List.mem_map_of_mem hp
 skip
 have k1:∀b o,s.heap.get? b=some o→h₁.get? b=some o:=fun b o e=>by
  rw [d4.2 b (Nat.ne_of_lt (Heap.lt_size e))];exact aL _ _ e
 refine ⟨F.nolimit.keeps fun b o e=>k1 _ _ (kp _ _ e),codeAny_func ?_⟩;have ld:s.heap.objs.size≠dx:=(Nat.ne_of_lt (Heap.lt_size hd)).symm;refine wpAny_mono (tf (K:=c.K) (ns:=ns) (es:=[]) (n:=0) (env:=newEnv I.scope s.heap.objs.size mainGlobals [] (fd.qualname++".<locals>.") (some fI) fd.code none builtinsNs) (s:={s with heap:=h₁,toks:=s.toks+(binds (.ref x) vals).length}) ok.kind (ok.loc _ ok.self) Bb ld ok.Qq (fun p hp=>⟨Gu p hp,fun y hy=>⟨ok.loc _ (ok.vals p hp y hy),HQ y (ok.vals p hp y hy)⟩⟩) ok.nd (fun _ _ _ q=>nomatch q) (by rw [List.length_nil,Nat.zero_add];exact Nat.le_trans ok.Qr (by decide))
  ⟨X.keeps k1,st,k1 _ _ hx,LU,hK,cY⟩ (k1 _ _ hd)) (fun fl s' q=>?_) fun _ _ q=>q
 induction q with|mk h' tk es q1 q2 q3=>?_
 exact h h' tk es (by rw [Nat.zero_add] at q1;exact q1) q2 fun b o hb e=>(q3 b hb).trans (k1 _ _ e)
theorem pV {I:mJ}{k:Nat}{binds:Value→List Value→List (Str×Value)}{names:List Str}{as:List (Str×IE)}{ns:List Str}{vals:List Value}{Q:Value→Shared→Prop}(F:Facts c)(kp:∀b o,c.base.get? b=some o→s.heap.get? b=some o)
  (hm:makesIn c.K C=true) (X:q0 c I C k binds) (ok:pU I names as) (st:C5 c.K C ns) (Gu:∀p∈as,p.1∈ns) (hk:vals.length=k)
  (bn:∀x,(binds x vals).map (·.1)=names) (Bb:∀x,(binds x vals).reverse.lookup ("self":Str)=some x) (HQ:∀x,∀y∈names,∃v,(binds x vals).reverse.lookup y=some v) (room:A.depth+1 < recursionLimit)
  (h:∀h' tk es,(∀b o,s.heap.get? b=some o→h'.get? b=some o)→h'.get? (s.heap.objs.size+1)=some (instObj C s.heap.objs.size)→h'.get? s.heap.objs.size=some (dictOf es as.length)→
   yw c.w (fun y=>(binds (.ref (s.heap.objs.size+1)) vals).reverse.lookup y) as es→Q (.ref (s.heap.objs.size+1)) {s with heap:=h',toks:=tk}):
  wpAny (model prog c.w) A (call (.ref C) vals) Q E s:=by
 obtain ⟨fI,o,fd,x1,x2,x3⟩:=X.at_;obtain ⟨hh,g,d,t,os⟩:=s;have XK:=F.rR.keeps kp;refine wpAny_call (make_core (makes_of XK hm) (looks_findIn XK x1) (fun self=>bind_fn XK self x2) (.inl rfl) ?_);have z1:(hh.push emptyDict).objs.size=hh.objs.size+1:=Heap.size_push ..;have LQ:((hh.push emptyDict).push (instObj C hh.objs.size)).get? hh.objs.size=some (dictOf [] 0):=Heap.get?_push_of_some _ (Heap.get?_push_size _ rfl);have Ki:((hh.push emptyDict).push (instObj C hh.objs.size)).get? (hh.objs.size+1)=some (instObj C hh.objs.size):=by rw [←z1];exact Heap.get?_push_size _ rfl
 have k1:∀b o,hh.get? b=some o→((hh.push emptyDict).push (instObj C hh.objs.size)).get? b=some o:=fun b o e=>Heap.get?_push_of_some _ (Heap.get?_push_of_some _ e)
 have jf:hh.objs.size+1≠hh.objs.size:=Nat.succ_ne_self _;have nn:hh.get? hh.objs.size=none:=bp hh;refine Ba (s:=⟨(hh.push emptyDict).push (instObj C hh.objs.size),g,d,t,os⟩) F (fun b o e=>k1 _ _ (kp _ _ e)) ok st Gu hk (bn _) (Bb _) (HQ _) ⟨o,fd,x3⟩ Ki LQ jf ?_ ?_ ?_
 ·induction q:c.K.lookup hh.objs.size with
  |none=>rfl
  |some o=>exact bR (nn.symm.trans (XK _ _ q))
 ·rw [depth_under_make];exact room
 ·exact fun h' tk es q1 q2 q3=>⟨rfl,h h' tk es (fun b o e=>q3 b o (fun q=>by subst q;exact bR (nn.symm.trans e)) (k1 _ _ e)) (q3 _ _ jf Ki) q1 q2⟩
end
noncomputable abbrev th (x:Value)(vs:List Value):List (Str×Value):=match vs with
 |[a,b]=>[("self",x),("kind",a),("items",b),("attrs",.none)]
 |_=>[]
noncomputable abbrev Bc (x:Value)(_:List Value):List (Str×Value):=[("self",x)]
structure d5 (c:Cx):Prop where
 M7:makesIn c.K c.vec=true
 M8:makesIn c.K c.nul=true
 HR:C5 c.K c.vec ["kind","items","attrs","shared","loose"]
 M9:C5 c.K c.nul ["kind","attrs"]
 Na:∃I,q0 c I c.vec 2 th∧pU I ["self","kind","items","attrs"] [("kind",.name "kind"),("items",.name "items"),("attrs",.name "attrs"),("shared",.bool false),("loose",.bool false)]
 Nb:∃I,q0 c I c.nul 0 Bc∧pU I ["self"] [("kind",.str "NULL"),("attrs",.none)]
 Nc:c.mg "Null"=some (.ref c.nul)
 Kk:keepIn c.K (.ref c.vec)=true
 Kl:keepIn c.K (.ref c.nul)=true
section
variable {prog:Program}{c:Cx}{A:Around}{I:Inv (ai A)}{env:PySem.Env}{L:Ev}{G:Calls}
inductive HS (c:Cx):List DictEntry→Prop
 |mk (t1 t2 t3:Tok):HS c [⟨c.H "kind",.str "kind" t1,.str "NULL" t3⟩,⟨c.H "attrs",.str "attrs" t2,.none⟩]
theorem D3 {m:Str→Option Value}{es:List DictEntry}(he:yw c.w m [("kind",.str "NULL"),("attrs",.none)] es):HS c es:=by
 obtain ⟨t1,v1,Qu,i1,t2,v2,C6,i2,he⟩:=he;cases (show rX _ _ from i1);cases (show _=Value.none from i2);cases (show _=[] from he);exact .mk _ _ _
inductive HT (c:Cx) (k ii:Value):List DictEntry→Prop
 |mk (t1 t2 t3 t4 t5:Tok):HT c k ii (dP c k ii .none false t1 t2 t3 t4 t5)
theorem HU {m:Str→Option Value}{x:Str}{v w:Value}(h:IV m (.name x) v)(e:m x=some w):v=w:=Option.some.inj ((show m x=some v from h).symm.trans e)
theorem D4 {x k ii:Value}{es:List DictEntry}(he:yw c.w (fun y=>(th x [k,ii]).reverse.lookup y) [("kind",.name "kind"),("items",.name "items"),("attrs",.name "attrs"),("shared",.bool false),("loose",.bool false)] es):HT c k ii es:=by
 obtain ⟨t1,w1,Qu,i1,t2,w2,C6,i2,t3,w3,Rx,i3,t4,w4,Ry,i4,t5,w5,Rz,i5,he⟩:=he;cases HU i1 (w:=k) rfl;induction HU i2 (w:=ii) rfl;cases HU i3 (w:=.none) rfl;cases (show _=Value.bool false from i4);cases (show _=Value.bool false from i5);cases (show _=[] from he);exact .mk _ _ _ _ _
theorem fB {α:Type}{P:α→Prop}{a b:α}(h:P a)(h':P b):∀x∈[a,b],P x:=List.forall_mem_cons.mpr ⟨h,aY h'⟩
theorem yx {Γ:Gh}{σ:Sg}{s:Shared}{h':Heap}{tk n:Nat}{es:List DictEntry}{res:Res (T×Kd)}(P:Pre c A I Γ σ s)(kp:∀b o,s.heap.get? b=some o→h'.get? b=some o)(hx:h'.get? (s.heap.objs.size+1)=some (instObj c.nul s.heap.objs.size))(hd:h'.get? s.heap.objs.size=some (dictOf es n))(he:HS c es)(e:res=.ok (.null,.val) σ):
  gF c A Γ σ s (RV c (ai A)) res (.ref (s.heap.objs.size+1)) {s with heap:=h',toks:=tk}:=by
 have n0:s.heap.get? s.heap.objs.size=none:=bp _;have n1:s.heap.get? (s.heap.objs.size+1)=none:=Heap.get?_none_of_le (Nat.le_succ _);have l0:=P.st.loose n0;have jf:s.heap.objs.size+1≠s.heap.objs.size:=Nat.succ_ne_self _;have Nd:=(P.st.loose n1).add (o:=dictOf es n) jf;refine ⟨_,σ,e,_,⟨h',tk⟩,((P.st.keeps kp).add l0 hd).add Nd hx,((Step.keeps kp P.st).add l0 n0).add Nd n1,fG ?_⟩
 induction he with
 |mk t1 t2 t3=>exact qD.mk _ _ t1 t2 t3 n Gh.dm ((Gh.gm jf.symm).trans Gh.dm)
theorem Nf {ts:List (T×Kd)}{σ:Sg}(ne:l8 G "Null" ts σ≠.stuck):ts=[]:=by
 induction ts with
 |nil=>rfl
 |cons a b=>exact absurd rfl ne
theorem aC.yy {old:Heap}{np pos:Pos}(F:Facts c)(N:d5 c)(hk:env.kindOf "Null"=some .globalImplicit)(room:A.depth+1 < recursionLimit):
  aC prog c A (cg c old (ai A) env L) (RV c (ai A)) (ag G L (.Call (.Name "Null" np) [] [] pos)) (eval (.Call (.Name "Null" np) [] [] pos) env):=by
 rw [dH rfl,dq (by decide) (by decide)];refine call_plain F (dR F hk (by decide) N.Nc) (fun _ q=>nomatch q) (kE N.Kl) (aC.row (fun _ q=>nomatch q) fun _ q=>nomatch q) fun {Γ σ s pre ts vs} P r ne=>?_
 cases Nf ne;cases (show vs=[] from r.r);obtain ⟨I,X,ok⟩:=N.Nb;exact pV F P.st.kept N.M8 X ok N.M9 (fB (.head _) (.tail _ (.head _))) rfl (fun _=>rfl) (fun _=>rfl) (fun x=>aY ⟨x,rfl⟩) room fun h' tk es kp hx hd he=>yx P kp hx hd (D3 he) rfl
structure LW (c:Cx) (fr:List Addr) (pre:Heap) (G:Gh) (σ:Sg) (h:Heap) (r:T×Kd) (v:Value):Prop where
 n:r.2≠.h
 r:RV c fr pre G σ h r v
def RN (c:Cx)(fr:List Addr)(pre:Heap)(G:Gh)(σ:Sg)(h:Heap)(r:T×Kd)(v:Value):Prop:=LW c fr pre G σ h r v
theorem aC.mS {m:M (T×Kd)}{X:Sem Value}(h:aC prog c A I (RV c (ai A)) m X):aC prog c A I (RN c (ai A)) (m>>=Internal.solid) X:=
 h.map fun {a v Γ σ pre h} _ y ne=>by
  by_cases k:a.2=.h
  ·exact absurd (congrFun (if_pos k:(if a.2=.h then Internal.stuck else pure a:M (T×Kd))=_) σ) ne
  ·exact ⟨a,congrFun (if_neg k) σ,k,y⟩
inductive HV (c:Cx) (fr:List Addr) (pre:Heap) (G:Gh) (σ:Sg) (h:Heap) (r:(T×Kd)×(T×Kd)):List Value→Prop
 |mk (v1 v2:Value) (r1:Rep c G r.1.1 v1) (r2:LW c fr pre G σ h r.2 v2):HV c fr pre G σ h r [v1,v2]
def Qv (c:Cx)(fr:List Addr)(pre:Heap)(G:Gh)(σ:Sg)(h:Heap)(r:(T×Kd)×(T×Kd))(vs:List Value):Prop:=HV c fr pre G σ h r vs
inductive HW:(T×Kd)×(T×Kd)→Res (T×Kd)→Sg→Prop
 |mk (k:Str) (ka:Kd) (ts:List T) (kb:Kd) (σ:Sg):HW ((.str k,ka),(.list ts,kb)) (.ok (.vec k ts .none,if kb=.own then .bg else .own) σ) σ
 |no (p:(T×Kd)×(T×Kd)) (σ:Sg):HW p .stuck σ
theorem D5 (p:(T×Kd)×(T×Kd))(σ:Sg):HW p (zN "Vector" [p.1,p.2] σ) σ:=by
 obtain ⟨⟨ta,ka⟩,⟨tb,kb⟩⟩:=p
 cases ta with
 |str k=>cases tb with
  |list ts=>exact .mk k ka ts kb σ
  |_=>exact .no ..
 |_=>exact .no ..
theorem Bd {Γ:Gh}{σ:Sg}{s:Shared}{pre:Heap}{h':Heap}{tk:Nat}{es:List DictEntry}{res:Res (T×Kd)}{k:Str}{u:Tok}{ts:List T}{kb:Kd}{v2:Value}(P:Pre c A I Γ σ s)(al:∀x o,pre.get? x=some o→∃o',s.heap.get? x=some o')(kp:∀b o,s.heap.get? b=some o→h'.get? b=some o)
  (hx:h'.get? (s.heap.objs.size+1)=some (instObj c.vec s.heap.objs.size)) (hd:h'.get? s.heap.objs.size=some (dictOf es 5)) (he:HT c (.str k u) v2 es) (r:LW c (ai A) pre Γ σ s.heap (.list ts,kb) v2) (e:res=.ok (.vec k ts .none,if kb=.own then .bg else .own) σ):
  gF c A Γ σ s (fun _=>RV c (ai A) pre) res (.ref (s.heap.objs.size+1)) {s with heap:=h',toks:=tk}:=by
 have O2:bx c h' s.heap.objs.size (.str k u,v2,.none):=by
  induction he with
  |mk t1 t2 t3 t4 t5=>exact ⟨_,hd,.mk false t1 t2 t3 t4 t5 5⟩
 have n0:s.heap.get? s.heap.objs.size=none:=bp _;have n1:s.heap.get? (s.heap.objs.size+1)=none:=Heap.get?_none_of_le (Nat.le_succ _);have l0:=P.st.loose n0;have l1:=P.st.loose n1;have f0:=P.fr.fresh n0;have f1:=P.fr.fresh n1;have jf:s.heap.objs.size+1≠s.heap.objs.size:=Nat.succ_ne_self _;have m0:=bQ al n0;have m1:=bQ al n1;refine ⟨_,σ,e,Γ,⟨h',tk⟩,P.st.keeps kp,Step.keeps kp P.st,?_⟩
 induction kb with
 |h=>exact absurd rfl r.n
 |bg=>obtain ⟨_,⟨_,q,_⟩,_⟩:=(show cT c (ai A) pre Γ s.heap (.list ts) .bg v2 from r.r);cases q
 |val=>exact cT.mk [s.heap.objs.size+1,s.heap.objs.size] (r6.own ⟨_,_,u,_,_,jf,hx,O2,r.r,Rep.me,l1,l0,f1,f0⟩) (fB m1 m0)
 |own=>
  obtain ⟨as,q,qn⟩:=(show cT c (ai A) pre Γ s.heap (.list ts) .own v2 from r.r)
  induction q.l with
  |mk b ws n q1 q2 q3 q4 q5=>
  have hb:=Heap.lt_size q1;exact cT.mk [s.heap.objs.size+1,s.heap.objs.size,b] (mG.own ⟨_,_,b,u,_,ws,n,jf,(Nat.ne_of_lt (Nat.lt_succ_of_lt hb)).symm,(Nat.ne_of_lt hb).symm,hx,O2,kp _ _ q1,q2,q3,Rep.me,l1,l0,q4,f1,f0,q5⟩) (List.forall_mem_cons.mpr ⟨m1,fB m0 (qn _ (.head _))⟩)
theorem aC.Be {old:Heap}{e1 e2:Expr}{np pos:Pos}(F:Facts c)(N:d5 c)(hk:env.kindOf "Vector"=some .globalImplicit)(room:A.depth+1 < recursionLimit)(O3:noStar e1=true)(O4:noStar e2=true)
  (h1:aC prog c A (cg c old (ai A) env L) (RV c (ai A)) (ag G L e1) (eval e1 env)) (h2:aC prog c A (cg c old (ai A) env L) (RV c (ai A)) (ag G L e2) (eval e2 env)):
  aC prog c A (cg c old (ai A) env L) (RV c (ai A)) (ag G L (.Call (.Name "Vector" np) [e1,e2] [] pos)) (eval (.Call (.Name "Vector" np) [e1,e2] [] pos) env):=by
 have e0:ag G L (.Call (.Name "Vector" np) [e1,e2] [] pos)=((do let a ←(ag G L e1>>=Internal.solid);let b ←(ag G L e2>>=Internal.solid);pure (a,b):M ((T×Kd)×(T×Kd)))>>=fun p=>zN "Vector" [p.1,p.2]):=by
  rw [dH rfl,dq (by decide) (by decide),fX,fX];simp only [M.assoc];rfl
 rw [e0]
 have ha:aC prog c A (cg c old (ai A) env L) (Qv c (ai A)) (do let a ←(ag G L e1>>=Internal.solid);let b ←(ag G L e2>>=Internal.solid);pure (a,b):M ((T×Kd)×(T×Kd))) (spliced (backTo pos (starEach [e1,e2] env))):=
  fun Γ σ s P ne=>wpAny_items_cons (seq (f:=fun a=>do let b ←(ag G L e2>>=Internal.solid);pure (a,b)) P ne h1.solid (K:=_) fun a aa af va s₁ _ y1 y2 ao ra ne1 e1=>
   wpAny_items_cons (wpAny_mono (seq (f:=fun b=>pure (a,b)) ao ne1 h2.mS (K:=_) fun b au aj vb aJ _ z1 z2 aU rb ne2 e2=>
    wpAny_items_nil ⟨(a,b),au,e1.trans e2,aj,y1.trans z1,aU.st,Step.trans P.st y2 z2,.mk va vb (Rep.mono z2.le _ _ ra.r) ⟨rb.n,bu _ _ _ _ _ _ _ y2.alive rb.r⟩⟩) (fun _ _ q=>q) fun _ _ q=>(q.back P y1 y2).cast fun _ _ q=>e1.trans q) (bD O4)) (bD O3)
 refine pT F (dR F hk (by decide) F.JI) (fB O3 O4) (kE N.Kk) ha fun {Γ σ s pre p vs} P r ne al=>?_
 have w:=D5 p σ;generalize zN "Vector" [p.1,p.2] σ=o at w ne ⊢
 cases w with
 |no=>exact absurd rfl ne
 |mk k ka ts kb=>
 induction (show HV c (ai A) pre Γ σ s.heap _ vs from r) with
 |mk v1 v2 r1 r2=>
 induction Rep.str_inv r1;obtain ⟨I,X,ok⟩:=N.Na;exact pV F P.st.kept N.M7 X ok N.HR (List.forall_mem_cons.mpr ⟨.head _,List.forall_mem_cons.mpr ⟨.tail _ (.head _),List.forall_mem_cons.mpr ⟨.tail _ (.tail _ (.head _)),fB (.tail _ (.tail _ (.tail _ (.head _)))) (.tail _ (.tail _ (.tail _ (.tail _ (.head _)))))⟩⟩⟩) rfl (fun _=>rfl) (fun _=>rfl)
  (fun x=>List.forall_mem_cons.mpr ⟨⟨x,rfl⟩,List.forall_mem_cons.mpr ⟨⟨_,rfl⟩,fB ⟨v2,rfl⟩ ⟨.none,rfl⟩⟩⟩) room fun h' tk es kp hx hd he=>Bd P al kp hx hd (D4 he) r2 rfl
end
noncomputable abbrev D6:List Value:=[.type "Exception",.type "BaseException",.type "object"]
structure Bf (c:Cx) (fI:Addr) (o:Obj) (fd:FuncData):Prop where
 g:c.base.get? fI=some o
 d:o.data=.func fd
 body:∃p1 p2 p3 p4,fd.body=.stmts [.Assign [.Attribute (.Name "self" p1) "message" p2] (.Name "message" p3) p4]
 kind:fd.scope.kind=.function
 co:fd.scope.isCoroutine=false
 gen:fd.scope.isGenerator=false
 cell:∀x∈fd.scope.names,x.2≠.cell
 l1:fd.scope.names.lookup ("self":Str)=some .local
 l2:fd.scope.names.lookup ("message":Str)=some .local
 glob:fd.globals=mainGlobals
 Ng:fd.closure=[]
 blt:fd.builtins=builtinsNs
 code:c.base.CodeRec fd.code fd.qualname
 binds:∀(s:Shared) (x v:Value),BindsTo s fd ⟨[x,v],[]⟩ [("self",x),("message",v)]
inductive Bg (c:Cx):Prop
 |mk (nm q:Str) (N:Addr) (bs bm:List Value) (sn:List Str) (sub:List Value) (ab:Bool) (col:Option Bool) (dd:Option Addr) (k0 k1 k2 k3 k5:Option Value) (mN:Str→Option Value) (fI:Addr) (o:Obj) (fd:FuncData)
   (hC:c.base.get? c.exc=some (excClassObj nm q c.exc N bs bm true sn sub ab col dd k0 k1 k2 k3 k5 "Exception.__new__")) (T:OwnTail c.base D6 bm) (hB:bm.contains (.type "BaseException")=true) (hN:c.base.Ns N mN) (hi:mN "__init__"=some (.ref fI)) (AF:typeIn c.K (.ref fI)=some (.type "function")) (I:Bf c fI o fd):Bg c
structure dt (c:Cx):Prop where
 cls:Bg c
 st:C5 c.K c.exc ["message"]
 glob:c.mg "Refusal"=some (.ref c.exc)
 keep:keepIn c.K (.ref c.exc)=true
noncomputable abbrev Bh (c:Cx)(tp:Addr)(d:Option Addr):Obj:={cls:=.ref c.exc,dict:=d,data:=.fields #[.ref tp,.none,.none,.none,.bool false,.none]}
inductive Gv (c:Cx) (h h':Heap) (e:Addr) (m:Str):Prop
 |mk (tp d:Addr) (t t':Tok) (kp:∀b o,h.get? b=some o→h'.get? b=some o) (n1:h.get? e=none) (n2:h.get? d=none) (ne:e≠d) (q1:h'.get? e=some (Bh c tp (some d))) (q2:h'.get? d=some (aB [⟨c.H "message",.str "message" t,.str m t'⟩] 1)):Gv c h h' e m
section
variable {prog:Program}{c:Cx}{A:Around}{E:Value→Shared→Prop}{s:Shared}
theorem Bi {fI e tp:Addr}{m:Str}{tm:Tok}{R:Result→Shared→Prop}{o:Obj}{fd:FuncData}(F:Facts c)(X:dt c)(kp:∀b o,c.base.get? b=some o→s.heap.get? b=some o)(J:Bf c fI o fd)
  (he:s.heap.get? e=some {cls:=.ref c.exc,data:=.fields #[.ref tp,.none,.none,.none,.bool false,.none]}) (room:A.depth < recursionLimit)
  (h:∀h' tk d t,(∀b o,b≠e→s.heap.get? b=some o→h'.get? b=some o)→s.heap.get? d=none→e≠d→h'.get? e=some {cls:=.ref c.exc,dict:=some d,data:=.fields #[.ref tp,.none,.none,.none,.bool false,.none]}→
   h'.get? d=some (aB [⟨c.H "message",.str "message" t,.str m tm⟩] 1)→R (.ok (.ret .none)) {s with heap:=h',toks:=tk}):
  codeAny (model prog c.w) A (.call (.ref fI) ⟨[.ref e,.str m tm],[]⟩) R s:=by
 obtain ⟨p1,p2,p3,p4,h3⟩:=J.body;refine codeAny_call_function room (kp _ _ J.g) J.d J.co J.gen h3 (J.code.keeps kp) (J.binds s (.ref e) (.str m tm) _ _ _ _ ?_);rw [J.glob,J.Ng,J.blt];refine wpAny_newFunctionEnv J.cell (List.forall_mem_cons.mpr ⟨J.l1,aY J.l2⟩) (fun h₁ cY d4=>?_) J.kind
 skip
 have k1:∀b o,s.heap.get? b=some o→h₁.get? b=some o:=fun b o e=>by
  exact (d4.2 b (Nat.ne_of_lt (Heap.lt_size e))).trans (aL _ _ e)
 refine ⟨F.nolimit.keeps fun b o e=>k1 _ _ (kp _ _ e),codeAny_func ?_⟩;refine wpAny_execs_cons (plainObj_wpAny_Assign_Attribute (wpAny_Name (wpAny_loadName_local J.kind J.l2 cY rfl (wpAny_Name (wpAny_loadName_local J.kind J.l1 cY rfl ?_) (by decide))) (by decide)));have jf:e≠h₁.objs.size:=Nat.ne_of_lt (Heap.lt_size (k1 _ _ he));refine yu (K:=c.K) ((F.rR.keeps kp).keeps k1) X.st (.head _) (k1 _ _ he) rfl rfl rfl fun h' tk t q1 q2 q3=>?_
 refine wpAny_execs_nil ?_;refine h h' tk h₁.objs.size t (fun b o hb e'=>q3 b o hb (k1 _ _ e')) ?_ jf q1 q2
 induction q:s.heap.get? h₁.objs.size with
 |none=>rfl
 |some o=>exact absurd (Heap.lt_size (k1 _ _ q)) (Nat.lt_irrefl _)
theorem Bj {m:Str}{tm:Tok}{Q:Value→Shared→Prop}(F:Facts c)(X:dt c)(kp:∀b o,c.base.get? b=some o→s.heap.get? b=some o)(room:A.depth+1 < recursionLimit)
  (h:∀h' tk e,Gv c s.heap h' e m→Q (.ref e) {s with heap:=h',toks:=tk}):wpAny (model prog c.w) A (call (.ref c.exc) [.str m tm]) Q E s:=by
 obtain ⟨nm,q,N,bs,bm,sn,sub,ab,col,dd,k0,k1,k2,k3,k5,mN,fI,o,fd,hC,T,hB,hN,hi,AF,J⟩:=X.cls;have Fn:=PySem.F.excBase_Exception;obtain ⟨hh,g,d,t,os⟩:=s;have XK:=F.rR.keeps kp;have hC:=kp _ _ hC;have T:=T.keeps kp;have hn:=hN.keeps kp;dsimp only at hC T hn XK;have f1:=tc_lookup;have f2:=tc_bind (.ref c.exc);have hT:(⟨hh,g,d,t,os⟩:Shared).TypeIs (.ref c.exc) "type":=⟨_,hC,rfl⟩;refine wpAny_call (codeAny_of_tree ?_);show wpAny _ _ (callAny (.ref c.exc) _) _ _ _
 repeat (any_goals (first|assumption|with_reducible refine wpAny_loadPart_at hC ?_|wp_step))
 refine ⟨rfl,?_⟩
 change codeAny _ _ (Code.call (.builtin "type.__call__") ⟨.ref c.exc::[.str m tm],[]⟩) _ _
 refine codeAny_call_builtin_at (Code.quiet_builtin _ (by decide +kernel)) entry_typeCall (wpAny_check_type_call_sub hC ?_)
 repeat (first|with_reducible refine wpAny_loadPart_at hC ?_|with_reducible refine wpAny_madeBy_exc hC ?_|wp_step)
 refine codeAny_call_builtin_code (Code.quiet_builtin _ Fn.quiet) (wpAny_check_new_subU Fn (by decide) T hC ?_);refine codeAny_exc_new_subU Fn (by decide) Fn T hC ?_ (show [Value.str m tm].length≤sizeLine from by rw [bC];exact (by decide:1≤16777216))
 skip
 have Km:((hh.push {cls:=.type "tuple",data:=.seq [Value.str m tm].toArray}).push
   {cls:=.ref c.exc,data:=.fields #[.ref hh.objs.size,.none,.none,.none,.bool false,.none]}).get? (hh.objs.size+1)=some
   {cls:=.ref c.exc,data:=.fields #[.ref hh.objs.size,.none,.none,.none,.bool false,.none]}:=by heap_get
 have kk:∀b o,hh.get? b=some o→((hh.push {cls:=.type "tuple",data:=.seq [Value.str m tm].toArray}).push
   {cls:=.ref c.exc,data:=.fields #[.ref hh.objs.size,.none,.none,.none,.bool false,.none]}).get? b=some o:=fun b o e=>Heap.get?_push_of_some _ (Heap.get?_push_of_some _ e)
 have Gw:=kk _ _ hC;have Bk:=hn.keeps kk;have ym:=T.keeps kk;have Qw:(Value.ref c.exc::bm).contains (.ref c.exc)=true:=by rw [List.contains_cons,beq_self_eq_true,Bool.true_or]
 skip
 repeat (first|with_reducible refine wpAny_loadPart_at Km ?_|(with_reducible refine wpAny_isSubtype_exc Gw ?_;rw [Qw])|wp_step)
 skip
 refine wpAny_typeLookup_tail Gw Bk ym Fn.mroIs Fn.init.lookup ?_;rw [hi];refine wpAny_holding (wpAny_bind ((bind_fn (M:=model prog c.w) (XK.keeps kk) _ AF).at ?_));refine wpAny_bind (wpAny_call ?_);refine Bi (s:=⟨_,g,d,t,os⟩) F X (fun b o e=>kk _ _ (kp _ _ e)) J Km (by rw [depth_under_make];exact room) fun h' tk d t' q1 q2 q3 q4 q5=>?_
 refine wpAny_pure ?_
 skip
 exact wpAny_pure (h h' tk (hh.objs.size+1) ⟨hh.objs.size,d,t',tm,fun b o e=>q1 b o (fun q=>by subst q;exact bR ((Heap.get?_none_of_le (Nat.le_succ _)).symm.trans e)) (kk _ _ e),Heap.get?_none_of_le (Nat.le_succ _),dn (fun o e=>⟨o,kk _ _ e⟩) q2,q3,q4,q5⟩)
end
section
variable {prog:Program}{c:Cx}{A:Around}{E:Value→Shared→Prop}{s:Shared}{env:PySem.Env}
inductive Kn (c:Cx) (E:Value→Shared→Prop):Value→Shared→Prop
 |mk (e tp d:Addr) (s₁:Shared) (kp:∀b o,c.base.get? b=some o→s₁.heap.get? b=some o) (he:s₁.heap.get? e=some (Bh c tp (some d))) (q:E (.ref e) s₁):Kn c E (.ref e) s₁
theorem u9 {x:Sem Value}{Q:Flow→Shared→Prop}(X:dt c)(hh:A.handled=none)
  (h:wpAny (model prog c.w) A x (fun v s₁=>Kn c E v s₁) E s):
  wpAny (model prog c.w) A (raiseStmt env (some x) none) Q E s:=by
 obtain ⟨nm,q,N,bs,bm,sn,sub,ab,col,dd,k0,k1,k2,k3,k5,mN,fI,o,fd,hC,T,hB,_⟩:=X.cls;have Qx:(Value.ref c.exc::bm).contains (.type "BaseException")=true:=by rw [List.contains_cons,hB,Bool.or_true]
 skip
 refine wpAny_bind (wpAny_mono h (fun v s₁ h₁=>?_) fun _ _ x=>x);obtain ⟨e,tp,d',_,kp,he,hE⟩:=h₁;obtain ⟨hp,g,d,tk,os⟩:=s₁;have hC:=kp _ _ hC;dsimp only at hC he
 repeat (first|with_reducible refine wpAny_loadPart_at he ?_|with_reducible refine wpAny_loadPart_at hC ?_|(with_reducible refine wpAny_isSubtype_exc hC ?_;rw [Qx])|wp_step)
 exact wpAny_raiseNew_none hh hE
end
section
variable {prog:Program}{c:Cx}{A₀ A:Around}{env:PySem.Env}{G:Calls}
theorem gp.raise {e:Expr}{np cp pos:Pos}(F:Facts c)(X:dt c)(hk:env.kindOf "Refusal"=some .globalImplicit)(room:A.depth+1 < recursionLimit)(hs:noStar e=true)(he:bk prog c A env G e):
  gp prog c A₀ A env (cn G (.Raise (some (.Call (.Name "Refusal" np) [e] [] cp)) none pos)) (exec (.Raise (some (.Call (.Name "Refusal" np) [e] [] cp)) none pos) env):=by
 intro L Γ₀ σ₀ s₀ Γ σ s P ne;obtain ⟨a0,P',le⟩:=P.settle e;rw [arm_exec_Raise];refine wpAny_bind (wpAny_standAt ?_);show wpAny _ _ (raiseStmt env (some (do let v ←eval (.Call (.Name "Refusal" np) [e] [] cp) env;standAt pos;pure v)) none) _ _ s;refine u9 X P'.fr.handled (wpAny_bind ?_);rw [arm_eval_Call_Name'];have zB:∀x∈[e],noStar x=true:=aY hs;refine wpAny_bind (dR F hk (by decide) X.glob np _ _ ⟨_,_,P'.cX⟩ P'.pre (callWith_of (P:=fun h=>c.K.In h) (first:=[]) (by show ((backTo cp (starEach [e] env)).any (·.1)||false)=false;rw [dD zB];rfl) (kE X.keep)
  (aC.args zB (wpAny_items_cons (iG (f:=fun a=>jF a>>=fun x=>uD x) P' ne (he _ _).weak (K:=_) fun a aa af v s₁ h0 ao y r ne1 e1=>?_) (bD hs)))))
 induction qO (M.aT ne1) with
 |mk x k=>
 induction (pD.nE r rfl).str_inv;refine wpAny_items_nil ⟨F.rR.keeps ao.st.kept,Bj F X ao.st.kept room fun h' tk e' N=>wpAny_bind (wpAny_standAt (wpAny_pure ?_))⟩;obtain ⟨tp,d,t1,t2,kp,n1,n2,ne',q1,q2⟩:=N;have ld:=ao.st.loose n2;have y2:=(Step.keeps kp ao.st:Step (ai A) af aa s₁.heap af aa h').add (o:=aB [⟨c.H "message",.str "message" t1,.str x t2⟩] 1) ld n2;exact ⟨e',tp,d,_,fun b o q=>kp _ _ (ao.st.kept _ _ q),q1,x,aa,_,e',_,e1,ao.same.trans ⟨h',tk⟩,(ao.st.keeps kp).add ld q2,Step.inner P.fh ao.step P.sub P.new y2,ao.fr.step y2,_,d,_,t1,t2,1,q1,rfl,rfl,rfl,Gh.dm,(ao.st.loose n1).add ne',ao.fr.fresh n1,bQ ao.step.alive n1,.none rfl⟩
end
structure jR (c:Cx):Prop where
 ga:findIn c.K (.ref c.exc) "__getattribute__"=some (some (.builtin "BaseException.__getattribute__"))
 hook:findIn c.K (.ref c.exc) "__getattr__"=some none
 msg:findIn c.K (.ref c.exc) "message"=some none
 cd:∃cd,clsIn c.K c.exc=some cd∧cd.hasDict=true∧cd.mro.isEmpty=false∧cd.mro.contains (.type "BaseException")=true
theorem D7 (self:Value):bindSpecial (.builtin "BaseException.__getattribute__") self=pure (.builtin "BaseException.__getattribute__",[self]):=
 (Slot.of (T:="Exception") (name:="__getattribute__") (owner:="BaseException") (n:="__getattribute__") (by rw [typeLookup_type,builtinLookup_eq_fast];kernel_rfl) (by decide +kernel) (by decide +kernel) (by decide +kernel)
  (.inl (by decide +kernel)) (by rw [isSubtype_type];kernel_rfl)).bind self
section
variable {prog:Program}{c:Cx}{A:Around}{E:Value→Shared→Prop}{s:Shared}
theorem D8 {e d:Addr}{oe:Obj}{vs:Array Value}{t:Tok}{v:Value}{n:Nat}{Q:Value→Shared→Prop}(F:Facts c)(X:jR c)(kp:∀b o,c.base.get? b=some o→s.heap.get? b=some o)
  (he:s.heap.get? e=some oe) (h1:oe.cls=.ref c.exc) (h2:oe.dict=some d) (h3:oe.data=.fields vs) (hd:s.heap.get? d=some (aB [⟨c.H "message",.str "message" t,v⟩] n)) (hv:handedIn v=true)
  (h:∀tk,Q v {s with toks:=tk}):wpAny (model prog c.w) A (getAttr (.ref e) "message" true) Q E s:=by
 obtain ⟨hh,g,dr,tk,os⟩:=s;have XK:=F.rR.keeps kp;dsimp only at XK he hd;have I:InstAt hh e oe c.exc (some (aB [⟨c.H "message",.str "message" t,v⟩] n)):=⟨he,h1,by unfold notCls;rw [h3],by rw [h2];exact hd⟩;obtain ⟨cd,c1,c2,c3,c4⟩:=X.cd;have ty:=I.type (M:=model prog c.w);have sub:Looks (model prog c.w) hh (isInstance (.ref e) (.type "BaseException")) true:=ty.andThen (looks_mroIn XK (by unfold mroIn;rw [c1,Option.bind_some,if_neg (by rw [c3];decide),c4]))
 have fo:findObj c.K c.exc (some (aB [⟨c.H "message",.str "message" t,v⟩] n)) "message"=some (.value v):=by
  exact findObj_own c1 X.msg c2 rfl
 have Qy:=looks_find (M:=model prog c.w) XK I fo;have ho:handedOut v=pure v:=handedOut_of hv
 skip
 refine wpAny_bind (wpAny_mkText (wpAny_holding (wpAny_bind (ty.at (wpAny_bind ((looks_findIn (M:=model prog c.w) XK X.ga).at ?_))))))
 have hb:(onTheHeap (.ref c.exc)&&Value.builtin "BaseException.__getattribute__" == Value.builtin "object.__getattribute__")=false:=by
  have:(Value.builtin "BaseException.__getattribute__" == Value.builtin "object.__getattribute__")=false:=by decide +kernel
  rw [this];rfl
 dsimp only;rw [if_neg (by rw [hb];decide)];unfold getAttrByItsOwn;refine wpAny_bind ?_
 skip
 refine (looks_findIn (M:=model prog c.w) XK X.hook).at ?_;refine wpAny_bind (wpAny_attempt (wpAny_holding ?_));show wpAny _ _ (boundAndCalled (.builtin "BaseException.__getattribute__") (.ref e) (.str "message" tk)) _ _ _;unfold boundAndCalled;rw [D7];refine wpAny_bind (wpAny_pure (wpAny_call ?_));refine codeAny_call_builtin (by decide +kernel) PySem.F.entry_bexc_ga (@check_slot (model prog c.w) _ _ ⟨hh,g,dr,tk+1,os⟩ "BaseException.__getattribute__" "BaseException" "__getattribute__" (.ref e) [.str "message" tk] [] _ (by decide +kernel) (by decide +kernel) sub (PySem.F.args_bexc_ga _ _) ?_);refine wpAny_bind (wpAny_pure (wpAny_bind (wpAny_pure (wpAny_bind (ty.at (wpAny_bind (Qy.at ?_)))))));refine wpAny_pure ?_;show wpAny _ _ (handedOut v) _ _ _;rw [ho];exact wpAny_pure (h _)
end
structure iJ (c:Cx):Prop where
 head:CodeHd c.base c.code c.tab
 blt:c.base.BuiltinsAt c.mg c.tab
 ne:mainGlobals≠c.tab
noncomputable abbrev noArgs:Arguments:={posonlyargs:=[],args:=[],vararg:=none,kwonlyargs:=[],kw_defaults:=[],kwarg:=none,defaults:=[]}
section
variable {prog:Program}{c:Cx}{A:Around}{I:Inv (ai A)}{fr:List Addr}{Γ:Gh}{σ:Sg}{h h':Heap}{s:Shared}{env:PySem.Env}{E:Value→Shared→Prop}
theorem Bl {Ja:Array Value}{a:Addr}{o:Obj}{vs:Array Value}{t:Tok}(S:St c Γ σ h)(kp:∀b o,b≠c.tab→h.get? b=some o→h'.get? b=some o)(ht:h'.get? c.tab=some (tabObj Ja))(h1:TriplesOk Ja.toList)
  (l:Loose Γ a) (na:h.get? a=none) (ea:h'.get? a=some o) (h2:codeAmong c.dB Ja.toList=some (.ref a)) (h3:o.data=.fields vs) (h4:vs[1]?=some (.str c.jc t)):
  St c (Γ.add a o) σ h'∧Step fr Γ σ h (Γ.add a o) σ h':=by
 obtain ⟨m1,mt,ps,m2,_⟩:=S.tab;rw [mt] at m1 m2;obtain ⟨p1,p2,_⟩:=S.apart _ m1;have T:fc Γ h h' c.tab:=⟨kp,_,ht⟩;have le:=Gh.dY (o:=o) l.o;have row:js (Γ.row=none) (fg Γ h') σ.row:=S.row.imp id fun _ q=>q.fb (.but kp m2 (fun q=>nomatch q))
 have self:js (Γ.self=none) (bT c Γ h') σ.self:=S.self.imp id fun _ q=>q.fb (.but kp m2 (fun q=>nomatch q))
 have Jf:Step fr Γ σ h Γ σ h':=Step.turn T m1 (fun v v' e e' _=>⟨Option.some.inj (e'.symm.trans e),fun b hm _ hb=>by
  obtain ⟨_,_,o,e⟩:=S.apart b hm;exact (kp b o (fun q=>hb (q.trans mt.symm)) e).trans e.symm⟩) fun v e=>⟨v,e,Nat.le_refl _⟩
 have ne:∀{b:Addr} {o':Obj},Γ.obj b=some o'→b≠c.tab:=fun e q=>by subst q;exact bR (p1.symm.trans e)
 refine ⟨⟨fun b o e=>le.obj _ _ (S.base b o e),fun b o' e=>?_,fun d y e=>rQ.keeps (S.gk d y e) fun o=>kp d o fun q=>(by subst q;exact bR (p2.symm.trans e)),fun b e=>(T.apart (S.apart b e)).turn (Gh.gm (fun z=>l.m (z▸e))) rfl,fun b x e=>(Gh.gm fun z=>(by subst z;exact bR (l.i.symm.trans e))).trans (S.apart2 b x e),row.imp id fun _ q=>q.mono le,self.imp id fun _ q=>q.mono le,?_⟩,Jf.add l na⟩
 ·by_cases hb:b=a
  ·subst hb;rw [Gh.dm] at e;induction Option.some.inj e;exact ea
  ·rw [Gh.gm hb] at e;exact kp b o' (ne e) (S.obj b o' e)
 ·have Nh:(Γ.add a o).tab=c.tab:=mt;exact ⟨by rw [Nh];exact m1,Nh,Ja,by rw [Nh];exact ht,h1,.inr ⟨a,o,vs,t,h2,Gh.dm,h3,h4⟩⟩
inductive Bm (c:Cx) (env:PySem.Env) (b:Expr) (sc:Scope) (cl:List (Str×Addr)) (h:Heap) (f:Addr):Prop
 |mk (cd zE:Value) (e:h.get? f=some {cls:=.type "function",data:=.func (kla_fn "<lambda>" (env.qual++"<lambda>") noArgs b sc cl ((c.mg "__name__").getD .none) cd zE)}) (r:h.CodeRec cd (env.qual++"<lambda>")):Bm c env b sc cl h f
theorem Bn {b:Expr}{sc:Scope}{cl:List (Str×Addr)}{Q:Value→Shared→Prop}(F:Facts c)(X:iJ c)(P:Pre c A I Γ σ s)(hg:env.globals=mainGlobals)(hc:env.code=.ref c.code)(hq:env.qual++"<lambda>"=c.jc)(Gp:closureFor sc env=pure cl)
  (h:∀f a0 s',Pre c A I a0 σ s'→b0 s s'→Step (ai A) Γ σ s.heap a0 σ s'.heap→ux A s.heap a0 f→Bm c env b sc cl s'.heap f→Q (.ref f) s'):
  wpAny (model prog c.w) A (eval (.Lambda noArgs b sc c.dB) env) Q E s:=by
 refine kla_eval rfl ?_;have kp:=P.st.kept;have Gu:=F.g.keeps kp;obtain ⟨m1,mt,ps,m2,m3,m4⟩:=P.st.tab;rw [mt] at m1 m2
 have hb:s.heap.BuiltinsAt c.mg c.tab:=by
  obtain ⟨bm,o,b1,b2,b3,b4,b5,b6⟩:=X.blt;exact ⟨bm,o,b1,b2,b3,b4,kp _ _ b5,b6⟩
 have hd:=X.head.keeps kp;rcases m4 with hn|⟨a,o,vs,t,ha,ho,h1,h2⟩
 ·refine kla_makeFunction (mg:=c.mg) Gp hg Gu hc hd m2 m3 hn X.ne hb fun c' zE h' tk hx Qz wM Ni O5=>?_
  obtain ⟨c₂,oc,vs,t,e2,O6,O7,hv⟩:=Ni;cases e2;have n1:s.heap.get? c'=none:=Heap.get?_none_of_le Qz;have l1:=P.st.loose n1;have am:=codeAmong_snoc (c:=.ref c') ps.toList m3 hn
  have cmp:∀b o,s.heap.get? b=some o→b≠h'.objs.size:=fun b o e=>by
   by_cases q:b=c.tab
   ·subst q;exact Nat.ne_of_lt (Heap.lt_size O5)
   ·exact Nat.ne_of_lt (Heap.lt_size (hx b o q e))
  refine (Bl (fr:=ai A) (a:=c') (o:=oc) (vs:=vs) (t:=t) P.st (fun b o hb e=>hx b o hb e) O5 (by rw [Array.toList_append];exact TriplesOk_snoc _ _ _ _ m3) l1 n1 O6 (by rw [Array.toList_append];exact am) O7 (by rw [←hq];exact hv)).elim fun uQ vf=>?_
  have nf:s.heap.get? h'.objs.size=none:=dn (h₁:={objs:=#[]}) (fun o q=>absurd rfl (cmp _ _ q)) (by simp [Heap.get?]);have ao:Pre c A I (Γ.add c' oc) σ {s with heap:=h',toks:=tk}:=P.next uQ vf;have N:=ao.push (kla_obj "<lambda>" (env.qual++"<lambda>") noArgs b sc cl ((c.mg "__name__").getD .none) c' zE) tk;exact h h'.objs.size _ _ N.P ⟨_,tk⟩ (Step.trans P.st vf N.x) ⟨ao.st.loose (bp h'),P.fr.fresh nf,nf⟩ ⟨.ref c',zE,Heap.get?_push_size _ rfl,c',oc,vs,t,rfl,aL _ _ O6,O7,hv⟩
 ·refine kla_makeFunctionHit (mg:=c.mg) Gp hg Gu hc hd m2 m3 ha hb fun zE h' tk kk eZ=>?_
  have uQ:=P.st.keeps kk;have vf:Step (ai A) Γ σ s.heap Γ σ h':=Step.keeps kk P.st;have nf:s.heap.get? h'.objs.size=none:=Heap.get?_none_of_le eZ;have ao:Pre c A I Γ σ {s with heap:=h',toks:=tk}:=P.next uQ vf;have N:=ao.push {cls:=.type "function",data:=.func (kla_fn "<lambda>" (env.qual++"<lambda>") noArgs b sc cl ((c.mg "__name__").getD .none) (.ref a) zE)} tk;exact h h'.objs.size _ _ N.P ⟨_,tk⟩ (Step.trans P.st vf N.x) ⟨ao.st.loose (bp h'),P.fr.fresh nf,nf⟩ ⟨.ref a,zE,Heap.get?_push_size _ rfl,a,o,vs,t,rfl,aL _ _ (kk _ _ (P.st.obj _ _ ho)),h1,by rw [hq];exact h2⟩
end
structure Ko (c:Cx) (fk:Addr) (o:Obj) (fd:FuncData):Prop where
 g:c.base.get? fk=some o
 d:o.data=.func fd
 body:∃p1 p2 p3 p4 p5 p6 p7 p8 p9,fd.body=.stmts [.Try [.Return (some (.Call (.Name "ask" p1) [] [] p2)) p3] [.ExceptHandler (some (.Name "Refusal" p4)) (some "error") [.Return (some (.Attribute (.Name "error" p5) "message" p6)) p7] p8] [] [] p9]
 kind:fd.scope.kind=.function
 co:fd.scope.isCoroutine=false
 gen:fd.scope.isGenerator=false
 cell:∀x∈fd.scope.names,x.2≠.cell
 ask:fd.scope.names.lookup ("ask":Str)=some .local
 err:fd.scope.names.lookup ("error":Str)=some .local
 ref:fd.scope.names.lookup ("Refusal":Str)=some .globalImplicit
 glob:fd.globals=mainGlobals
 Ng:fd.closure=[]
 blt:fd.builtins=builtinsNs
 code:c.base.CodeRec fd.code fd.qualname
 binds:∀(s:Shared) (v:Value),BindsTo s fd ⟨[v],[]⟩ [("ask",v)]
structure oh (c:Cx) (fk:Addr):Prop where
 glob:c.mg "_law_kept"=some (.ref fk)
 keep:keepIn c.K (.ref fk)=true
 at_:∃o fd,Ko c fk o fd
structure Kp (f:Str→Bool) (sc:Scope):Prop where
 kind:sc.kind=.function
 co:sc.isCoroutine=false
 gen:sc.isGenerator=false
 nodup:(sc.names.map (·.1)).Nodup
 cell:∀p∈sc.names,p.2≠.cell
 free:∀p∈sc.names,p.2=.free→f p.1=true
section
variable {prog:Program}{c:Cx}{A A₀:Around}{fr:List Addr}{Γ af:Gh}{σ aa:Sg}{h h₁:Heap}{s:Shared}{env:PySem.Env}{L:Ev}{G:Calls}{E:Value→Shared→Prop}{g f:Str→Bool}{sc:Scope}{cl:List (Str×Addr)}
theorem bz.lam {le:PySem.Env}(S:bz g f env)(ok:Kp f sc)(hc:∀y,(y,NameKind.free)∈sc.names→cl.lookup y=env.cells.lookup y)(h1:le.scope=sc)(h2:le.cells=cl):bz (aP sc .globalImplicit) (aP sc .free) le:=by
 subst h1 h2;refine ⟨fun y hy=>LawfulBEq.eq_of_beq hy,fun y hy=>?_⟩;have hy:le.scope.names.lookup y=some .free:=LawfulBEq.eq_of_beq hy;have hm:=lookup_mem hy;obtain ⟨_,ca,q⟩:=S.cell y (ok.free _ hm rfl);exact ⟨.inr hy,ca,(hc y hm).trans q⟩
theorem gS.lam {old HE:Heap}{m:Str→Option Value}{le:PySem.Env}{kg:List Addr}(E:gS c old Γ h fr env L)(S:bz g f env)(ok:Kp f sc)(hc:∀y,(y,NameKind.free)∈sc.names→cl.lookup y=env.cells.lookup y)
  (h1:le.scope=sc) (h2:le.cells=cl) (h3:le.globals=mainGlobals) (h4:le.builtins=builtinsNs) (hn:h.Ns le.locals m) (lC:Loose Γ le.locals):gS c HE Γ h kg le {loc:=inScope sc L.loc}:=by
 subst h1 h2;obtain ⟨e1,e2,e3,AI,e4,e5,e6,_⟩:=E;refine ⟨ok.kind,h3,h4,m,hn,lC,fun y t' hy=>?_,eY.nil⟩;have hy:(if y∈k6 le.scope then L.loc y else none)=some t':=hy;by_cases hk:y∈k6 le.scope
 ·rw [if_pos hk] at hy;have qR:=nV hk;obtain ⟨w,b,r'⟩:=e6 y t' hy;refine (S.cell y (ok.free _ qR rfl)).elim fun k1 _=>?_
  induction b with
  |loc b1=>rcases k1 with k1|k1<;>cases Option.some.inj (b1.symm.trans k1)
  |cell k cb b1 b2 b3 b4 b5=>exact ⟨w,.cell .free cb (.inr rfl) (eG ok.nodup qR) ((hc y qR).trans b3) b4 b5,r'⟩
 ·rw [if_neg hk] at hy;exact bR hy
theorem dW.less {e:PySem.Env}(F:dW (A.deeper e) Γ h)(hl:∃l,A.frames=some l):dW A Γ h:=by
 refine (hl).elim fun l' HA=>?_
 obtain ⟨⟨l,hl,hF⟩,hh⟩:=F;induction Option.some.inj ((Around.frames_deeper HA).symm.trans hl);exact ⟨⟨l',HA,fun e he=>hF e (.tail _ he)⟩,hh⟩
theorem dW.more {e:PySem.Env}{F:Addr}{o:Obj}(X:dW A Γ h)(hk:e.scope.kind≠.module)(hf:e.frame=some F)(ho:h.get? F=some o)(hd:∀vs,o.data≠.fields vs)(l:Loose Γ F):dW (A.deeper e) Γ h:=by
 obtain ⟨⟨l',hl,hF⟩,hh⟩:=X;exact ⟨⟨e::l',Around.frames_deeper hl,List.forall_mem_cons.mpr ⟨⟨hk,F,o,hf,ho,hd,l⟩,hF⟩⟩,hh⟩
structure Nj (c:Cx) (A:Around) (e:PySem.Env) (Γ:Gh) (σ:Sg) (h h':Heap):Prop where
 S:St c Γ σ h'
 x:Step (ai A) Γ σ h Γ σ h'
 l:Loose Γ e.locals
 fr:dW (A.deeper e) Γ h'
 sub:∀b∈ai A,b∈ai (A.deeper e)
 new:∀b∈ai (A.deeper e),b∈ai A∨h.get? b=none
 mem:e.locals∈ai (A.deeper e)
 top:∃l,(A.deeper e).frames=some (e::l)
theorem xf {e:PySem.Env}{m:Str→Option Value}(FR:dW A Γ h)(S:St c Γ σ h)(hf:e.frame=some e.locals)(hk:e.scope.kind=.function)(n:h.get? e.locals=none)(k:∀b o,h.get? b=some o→h₁.get? b=some o)(hn:h₁.Ns e.locals m):Nj c A e Γ σ h h₁:=by
 have l:=S.loose n;obtain ⟨o',es,ep,q1,q2,_⟩:=hn;have x:Step (ai A) Γ σ h Γ σ h₁:=Step.keeps k S;have QA:=(FR.step x).more (e:=e) (by rw [hk];decide) hf q1 (fun vs q=>by cases q2.symm.trans q) l;obtain ⟨⟨fl,hl,_⟩,_⟩:=FR;have Nk:ai (A.deeper e)=e.locals::ai A:=nZ ⟨fl,hl⟩ hf;exact ⟨S.keeps k,x,l,QA,fun b hb=>Nk▸.tail _ hb,fun b hb=>(List.mem_cons.mp (Nk▸hb:b∈e.locals::ai A)).elim (fun q=>.inr (q▸n)) .inl,Nk▸.head _,fl,Around.frames_deeper hl⟩
inductive ti (c:Cx) (A₀:Around) (Γ₀:Gh) (σ₀:Sg) (s₀:Shared) (Γ:Gh) (σ:Sg) (msg:Str):Flow→Shared→Prop
 |mk (t:Tok) (s':Shared) (sm:b0 s₀ s') (st:St c Γ σ s'.heap) (sp:Step (ai A₀) Γ₀ σ₀ s₀.heap Γ σ s'.heap):ti c A₀ Γ₀ σ₀ s₀ Γ σ msg (.ret (.str msg t)) s'
theorem vg {s₀:Shared}{Γ₀:Gh}{σ₀:Sg}{L1 ea:Addr}{p4 p5 p6 p7 p8:Pos}{ee:PySem.Env}{m:Str→Option Value}{msg:Str}{x:Value}(F:Facts c)(XE:dt c)(XG:jR c)(hk:ee.scope.kind=.function)(hl:ee.kindOf "error"=some .local)
  (hr:ee.kindOf "Refusal"=some .globalImplicit) (LJ:ee.globals=mainGlobals) (hL:ee.locals=L1) (O8:s₀.heap.get? L1=none) (QB:b0 s₀ s)
  (X:XB c A A af aa h Γ σ s.heap) (T:jY c A h Γ s.heap ea msg (some x)) (hn:h.Ns L1 m) (lL:Loose af L1) (ne:ea≠L1)
  (base:Step (ai A₀) Γ₀ σ₀ s₀.heap af aa h) (Nl:St c Γ₀ σ₀ s₀.heap) (sub:∀b∈ai A₀,b∈ai A) (new:∀b∈ai A,b∈ai A₀∨s₀.heap.get? b=none):
  wpAny (model prog c.w) A (handleBy (.ref ea) ee [.ExceptHandler (some (.Name "Refusal" p4)) (some "error") [.Return (some (.Attribute (.Name "error" p5) "message" p6)) p7] p8]) (ti c A₀ Γ₀ σ₀ s₀ Γ σ msg) E s:=by
 obtain ⟨nm,q,N,bs,bm,sn,QC,ab,col,dd,k0,k1,k2,k3,k5,mN,fI,o,fd,hC,T',hB,_⟩:=XE.cls;have kp:=X.st.kept;obtain ⟨oe,de,vs,t,t',n,a1,a2,a3,a4,a5,a6,a7,a8,a9⟩:=T;have Nm:jY c A h Γ s.heap ea msg (some x):=⟨oe,de,vs,t,t',n,a1,a2,a3,a4,a5,a6,a7,a8,a9⟩;refine wpAny_handleBy_cons (codeAny_handlers_test (lj hk hr (mg:=c.mg) (by rw [LJ];exact F.g.keeps kp) XE.glob (by decide) ?_)) (by intro q;cases q);obtain ⟨hh,gg,dr,tk,os⟩:=s;refine wpAny_excMatches_sub_self (kp _ _ hC) a1 a2 hB (codeAny_handlers_suite_as ?_);refine fm (s:=⟨hh,gg,dr,tk,os⟩) X Nm fun h₁ sO ym=>?_
 obtain ⟨oe,de,vs,t,t',n,a1,a2,a3,a4,a5,a6,a7,a8,a9⟩:=ym;obtain ⟨Bk,Gx⟩:=sO.step.ns lL hn;have vf:=Step.inner Nl base sub new sO.step;subst hL;refine wpAny_storeName_local hl Bk (fun fj sT Gy=>?_) (by rw [hk];rfl);have D9:=dC sO.st vf O8 Gx Gy;have Kq:=D9.S.kept;refine wpAny_execs_cons (wpAny_Return_some (Attribute_any_ (wpAny_Name (wpAny_loadName_local hk hl sT (if_pos rfl) ?_) (by decide)) (by rw [arm_eval_Attribute,gV rfl])));refine D8 (s:={heap:=fj,gens:=gg,drawn:=dr,toks:=tk+1,os:=os}) F XG Kq ((Gy.2 ea ne).trans a1) a2 a3 a4 (D9.S.obj _ _ a5) rfl fun LN=>?_
 refine wpAny_nameGoes hl sT (by rw [hk];rfl) fun Hn QD O9 Kr=>?_
 have Ks:=dC D9.S D9.x O8 Gx Kr;exact ⟨t',_,QB.trans ⟨Hn,_⟩,Ks.S,Ks.x⟩
end
section
variable {prog:Program}{c:Cx}{A₀:Around}{Γ:Gh}{σ:Sg}{s:Shared}{env:PySem.Env}{L:Ev}{G:Calls}{E:Value→Shared→Prop}{g f:Str→Bool}{sc:Scope}{cl:List (Str×Addr)}{old:Heap}
theorem yz {m:M (T×Kd)}{a:T×Kd}{σ σ':Sg}(e:m σ=.ok a σ')(ne:dA m σ≠.stuck):a.2≠.h∧dA m σ=.ok (a.1,.val) σ':=by
 have e2:dA m σ=if a.2=.h then .stuck else .ok (a.1,.val) σ':=by unfold dA;rw [e]
 have ha:a.2≠.h:=fun q=>ne (e2.trans (if_pos q))
 exact ⟨ha,e2.trans (if_neg ha)⟩
theorem yA {m:M (T×Kd)}{x:Str}{σ σ':Sg}(e:m σ=.ct x σ'):dA m σ=.ok (.str x,.val) σ':=by unfold dA;rw [e]
theorem yB {m:M (T×Kd)}{σ:Sg}(ne:dA m σ≠.stuck):m σ≠.stuck:=fun q=>ne (by unfold dA;rw [q])
theorem jY.less {A A':Around}{pre h:Heap}{e:Addr}{m:Str}{fl:Option Value}(x:jY c A pre Γ h e m fl)(sub:∀b∈ai A',b∈ai A):jY c A' pre Γ h e m fl:=by
 obtain ⟨oe,de,vs,t,t',n,a1,a2,a3,a4,a5,a6,a7,a8,a9⟩:=x;refine ⟨oe,de,vs,t,t',n,a1,a2,a3,a4,a5,a6,fun q=>a7 (sub _ q),a8,?_⟩
 induction a9 with
 |none q=>exact .none q
 |at_ T oT ts x b1 b2 b3 b4 b5 b6 b7 b8=>exact .at_ T oT ts x b1 b2 b3 b4 b5 b6 (fun q=>b7 (sub _ q)) b8
theorem jY.nf {A:Around}{pre h:Heap}{e:Addr}{m:Str}{fl:Option Value}(x:jY c A pre Γ h e m fl):e∉ai A:=by
 obtain ⟨_,_,_,_,_,_,_,_,_,_,_,_,a7,_⟩:=x;exact a7
theorem Ea {fk lam:Addr}{b:Expr}(F:Facts c)(XE:dt c)(XG:jR c)(KF:oh c fk)(P:Pre c A₀ (cg c old (ai A₀) env L) Γ σ s)(ES:bz g f env)(ok:Kp f sc)(hc:∀y,(y,NameKind.free)∈sc.names→cl.lookup y=env.cells.lookup y)
  (il:Bm c env b sc cl s.heap lam) (room:A₀.depth+1 < recursionLimit)
  (hb:∀ee le,bz (aP sc .globalImplicit) (aP sc .free) le→bk prog c ((A₀.deeper ee).deeper le) le G b)
  (ne:dA (ag G {loc:=inScope sc L.loc} b) σ≠.stuck):
  wpAny (model prog c.w) A₀ (call (.ref fk) [.ref lam]) (gF c A₀ Γ σ s (RV c (ai A₀)) (dA (ag G {loc:=inScope sc L.loc} b) σ)) E s:=by
 obtain ⟨o,fd,K⟩:=KF.at_;obtain ⟨p1,p2,p3,p4,p5,p6,p7,p8,p9,x3⟩:=K.body;obtain ⟨cd,zE,l1,l2⟩:=il;have kp:=P.st.kept;refine wpAny_call (codeAny_call_function (Nat.lt_of_succ_lt room) (kp _ _ K.g) K.d K.co K.gen x3 (K.code.keeps kp) (K.binds s (.ref lam) _ _ _ _ ?_));rw [K.glob,K.Ng,K.blt];refine wpAny_newFunctionEnv K.cell (aY K.ask) (fun h₁ cY d4=>?_) K.kind;have k1:∀b o,s.heap.get? b=some o→h₁.get? b=some o:=fun b o e=>(d4.2 b (Nat.ne_of_lt (Heap.lt_size e))).trans (aL _ _ e)
 refine ⟨F.nolimit.keeps fun b o e=>k1 _ _ (kp _ _ e),codeAny_func ?_⟩;generalize Kt:newEnv fd.scope s.heap.objs.size mainGlobals [] (fd.qualname++".<locals>.") (some fk) fd.code none builtinsNs=ee;have Pa:ee.locals=s.heap.objs.size:=by rw [←Kt];rfl
 have Pb:ee.scope=fd.scope:=by rw [←Kt];rfl
 have QE:ee.globals=mainGlobals:=by rw [←Kt];rfl
 have Pc:ee.frame=some ee.locals:=by rw [←Kt];rfl
 clear Kt;have Je:∀y,ee.kindOf y=fd.scope.names.lookup y:=fun y=>by show ee.scope.names.lookup y=_;rw [Pb]
 have hk:ee.scope.kind=.function:=by rw [Pb];exact K.kind
 rw [←Pa] at cY d4;have nL:s.heap.get? ee.locals=none:=by rw [Pa];exact bp _
 have D1:=xf P.fr P.st Pc hk nL k1 cY;refine wpAny_execs_cons (wpAny_Try_except (wpAny_execs_cons (wpAny_Return_some ?_)));rw [arm_eval_Call_Name'];refine wpAny_bind (wpAny_Name (wpAny_loadName_local hk ((Je _).trans K.ask) cY rfl ?_) (by decide));refine Calls.callWith_function (o:={cls:=.type "function",data:=.func (kla_fn "<lambda>" (env.qual++"<lambda>") noArgs b sc cl ((c.mg "__name__").getD .none) cd zE)}) (fd:=kla_fn "<lambda>" (env.qual++"<lambda>") noArgs b sc cl ((c.mg "__name__").getD .none) cd zE) (aC.args (es:=[]) (fun _ q=>nomatch q) (wpAny_items_nil ?_));refine ⟨⟨k1 _ _ l1,rfl⟩,wpAny_call (kla_callFunE (show (A₀.deeper ee).depth < recursionLimit from by rw [depth_deeper];exact room) (k1 _ _ l1) rfl ok.co ok.gen rfl (l2.keeps k1) ?_)⟩;show wpAny _ _ (bindArgs (kla_fn "<lambda>" (env.qual++"<lambda>") noArgs b sc cl ((c.mg "__name__").getD .none) cd zE) ⟨[],[]⟩) _ _ _;rw [show bindArgs (kla_fn "<lambda>" (env.qual++"<lambda>") noArgs b sc cl ((c.mg "__name__").getD .none) cd zE) ⟨[],[]⟩=pure [] from rfl];refine wpAny_pure (wpAny_newFunctionEnv ok.cell (fun p hp=>nomatch hp) (fun fj q6 vh=>?_) ok.kind);dsimp only at q6 vh ⊢;have k2:∀b o,h₁.get? b=some o→fj.get? b=some o:=fun b o e=>(vh.2 b (Nat.ne_of_lt (Heap.lt_size e))).trans (aL _ _ e)
 refine ⟨F.nolimit.keeps fun b o e=>k2 _ _ (k1 _ _ (kp _ _ e)),kla_codeExpr ?_⟩;generalize hle:newEnv sc h₁.objs.size mainGlobals cl (env.qual++"<lambda>"++".<locals>.") (some lam) cd none builtinsNs=le;have Pd:le.locals=h₁.objs.size:=by rw [←hle];rfl
 have Nn:le.scope=sc:=by rw [←hle];rfl
 have Pe:le.cells=cl:=by rw [←hle];rfl
 have Pf:le.frame=some le.locals:=by rw [←hle];rfl
 have QF:le.globals=mainGlobals:=by rw [←hle];rfl
 have QG:le.builtins=builtinsNs:=by rw [←hle];rfl
 clear hle;rw [←Pd] at q6 vh;have D2:=xf D1.fr D1.S Pf (by rw [Nn];exact ok.kind) (by rw [Pd];exact bp _) k2 q6;have ER:gS c old Γ s.heap (ai A₀) env L:=P.inv
 have QH:gS c fj Γ fj (ai ((A₀.deeper ee).deeper le)) le {loc:=inScope sc L.loc}:=
  (ER.step (Step.keeps (fun b o e=>k2 _ _ (k1 _ _ e)) P.st:Step (ai A₀) Γ σ s.heap Γ σ fj)).lam ES ok hc Nn Pe QF QG q6 D2.l
 refine wpAny_mono ((hb ee le (ES.lam ok hc Nn Pe) fj {loc:=inScope sc L.loc}).kA Γ σ {s with heap:=fj,toks:=s.toks+[(("ask":Str),Value.ref lam)].length+([]:List (Str×Value)).length} ⟨D2.S,D2.fr,QH⟩ (yB ne)) (fun v s' q=>?_) fun e s' q=>?_
 ·obtain ⟨a,σ',e,a0,y1,y2,y3,y4⟩:=q;refine (yz e ne).elim fun ha e2=>?_
  have sm:b0 s s':=by induction y1 with|mk h' t'=>?_;exact ⟨h',t'⟩
  exact ⟨_,σ',e2,a0,sm,y2,Step.inner P.st D1.x D1.sub D1.new (Step.inner D1.S D2.x D2.sub D2.new y3),fG (wQ.solid y4 ha)⟩
 ·obtain ⟨msg,σ',e1,a0,ea,_,y1,y2,y3,ex⟩:=q;have e2:=yA e1;have z1:=Step.inner D1.S D2.x D2.sub D2.new y3;have X:XB c (A₀.deeper ee) ((A₀.deeper ee).deeper le) Γ σ h₁ a0 σ' s'.heap:=⟨D1.S,y2,z1,D2.fr.step y3,D2.sub,D2.new⟩;obtain ⟨LX,T⟩:=(ex.back (h₀:=h₁) (fun x o q=>⟨o,k2 _ _ q⟩)).t;obtain ⟨Np,QI⟩:=D2.top;obtain ⟨Nd,Pg⟩:=D1.top;refine sP X T QI Pf fun h' X' T'=>?_
  have X1:XB c (A₀.deeper ee) (A₀.deeper ee) Γ σ h₁ a0 σ' h':=⟨D1.S,X'.st,X'.step,X'.fr.less ⟨_,Pg⟩,fun b hb=>hb,fun b hb=>.inl hb⟩;refine qT (s:={s' with heap:=h'}) X1 (T'.less D2.sub) Pg Pc fun h3 X3 T3=>?_
  refine fm (s:={s' with heap:=h3}) X3 T3 fun h4 X4 T4=>?_
  have sm:b0 s {s' with heap:=h4}:=by induction y1 with|mk Jb t'=>?_;exact ⟨h4,t'⟩
  refine wpAny_mono (vg (A₀:=A₀) (s₀:=s) (Γ₀:=Γ) (σ₀:=σ) (s:={s' with heap:=h4}) F XE XG hk ((Je _).trans K.err) ((Je _).trans K.ref) QE rfl nL sm X4 T4 cY D1.l (fun q=>T4.nf (q▸D1.mem)) D1.x P.st D1.sub D1.new) (fun fl MW q=>?_) fun _ _ q=>q
  induction q with|mk t _ q1 q2 q3=>?_
  exact ⟨_,σ',e2,a0,q1,q2,q3,fG Rep.str⟩
end
section
variable {prog:Program}{c:Cx}{A:Around}{env:PySem.Env}{L:Ev}{G:Calls}{g f:Str→Bool}{sc:Scope}{old:Heap}
structure Bo (c:Cx) (env:PySem.Env):Prop where
 code:env.code=.ref c.code
 qual:env.qual++"<lambda>"=c.jc
theorem aC.kept {fk:Addr}{b:Expr}{np pos:Pos}(F:Facts c)(XE:dt c)(XG:jR c)(XL:iJ c)(KF:oh c fk)(ES:bz g f env)(EC:Bo c env)(ok:Kp f sc)(hk:env.kindOf "_law_kept"=some .globalImplicit)(room:A.depth+1 < recursionLimit)
  (hb:∀ee le,bz (aP sc .globalImplicit) (aP sc .free) le→bk prog c ((A.deeper ee).deeper le) le G b):
  aC prog c A (cg c old (ai A) env L) (RV c (ai A)) (ag G L (.Call (.Name "_law_kept" np) [.Lambda noArgs b sc c.dB] [] pos)) (eval (.Call (.Name "_law_kept" np) [.Lambda noArgs b sc c.dB] [] pos) env):=by
 intro Γ σ s P ne
 have e0:ag G L (.Call (.Name "_law_kept" np) [.Lambda noArgs b sc c.dB] [] pos)=dA (ag G {loc:=inScope sc L.loc} b):=by
  exact if_pos rfl
 rw [e0] at ne ⊢;rw [arm_eval_Call_Name'];refine wpAny_bind (dR F hk (by decide) KF.glob np _ _ ⟨old,L,P.inv⟩ P ?_);have zB:∀x∈[Expr.Lambda noArgs b sc c.dB],noStar x=true:=aY rfl;refine callWith_of (P:=fun h=>c.K.In h) (first:=[]) (by show ((backTo pos (starEach [Expr.Lambda noArgs b sc c.dB] env)).any (·.1)||false)=false;rw [dD zB];rfl) (kE KF.keep) ?_;obtain ⟨cl,Gp,hc⟩:=jQ (scope:=sc) (env:=env) fun p hp hk=>(ES.cell p.1 (ok.free p hp hk)).2
 have ER:gS c old Γ s.heap (ai A) env L:=P.inv;exact aC.args zB (wpAny_items_cons (Bn F XL P ER.glob EC.code EC.qual Gp fun lam a0 s' P' sm y nw il=>wpAny_items_nil ⟨F.rR.keeps P'.st.kept,cF bu P sm y (Ea F XE XG KF P' ES ok hc il room hb ne)⟩) rfl)
end
noncomputable def Gh.iv (G:Gh)(a:Addr):Gh:={G with moves:=fun b=>G.moves b∨b=a}
section
variable {prog:Program}{c:Cx}{A₀ A:Around}{env:PySem.Env}{L L':Ev}{Γ₀ Γ af a0:Gh}{σ₀ σ aa σ':Sg}{s₀ s s₁:Shared}{E:Value→Shared→Prop}{G:Calls}{h h₁ h₀:Heap}{fr:List Addr}{a:Addr}{o:Obj}
theorem own_apart (P:aA c A₀ A env L Γ₀ σ₀ s₀ Γ σ s)(y:Step (ai A) Γ σ s.heap af aa h₁):Apart env L.own s.heap h₁:=by
 obtain ⟨m,e4,e5,e6,f,ow,_⟩:=P.cX.bound
 exact fun b hb=>b9.of (y.ns e5 e4).1 (fun p hp=>(ow p hp).step y) fun p hp ha=>by
  obtain ⟨v,_,w⟩:=ow p hp;refine ((w.iC b ha).e).elim fun o e=>?_
  exact bR (hb.symm.trans e)
theorem ints_of:∀{ts:List T} {vs:List Value} {r:List Int},az c Γ ts vs→intsOf ts=some r→IntsAre vs r
 |[],_,_,h,e=>by induction Option.some.inj e;cases (show _=[] from h);exact .nil
 |t::ts,_,r,h,e=>by
  induction h with|mk v w h1 h2=>?_
  cases t with
  |int i=>
   induction Rep.int_inv h1;obtain ⟨r',e1,rfl⟩:=Option.map_eq_some_iff.mp (show (intsOf ts).map (i::·)=some r from e);exact .cons _ _ (ints_of h2 e1)
  |_=>exact bR e
theorem Gh.jh:Γ.Le (Γ.iv a):=⟨fun _ _ e=>e,fun _ _ e=>e,fun _ e=>.inl e,fun _ e=>e,fun _ e=>e,rfl⟩
theorem Loose.iv {b:Addr}(l:Loose Γ b)(n:b≠a):Loose (Γ.iv a) b:=⟨l.o,l.i,fun q=>q.elim l.m n⟩
theorem jS (S:St c Γ σ h)(l:Loose Γ a)(e:h.get? a=some o):∀b,(Γ.iv a).moves b→zU (Γ.iv a) h b:=fun b q=>q.elim (fun q=>(S.apart b q).turn rfl rfl) fun q=>by subst q;exact ⟨l.o,l.i,o,e⟩
theorem St.iv (S:St c Γ σ h)(l:Loose Γ a)(e:h.get? a=some o):St c (Γ.iv a) σ h:=
 ⟨S.base,S.obj,S.gk,jS S l e,S.apart2,S.row.imp id fun _ q=>q.mono Gh.jh,S.self.imp id fun _ q=>q.mono Gh.jh,S.tab.mono Gh.jh⟩
theorem Step.iv (y:Step fr Γ₀ σ₀ h₀ Γ σ h)(n:h₀.get? a=none):Step fr Γ₀ σ₀ h₀ (Γ.iv a) σ h:=
 ⟨y.le.trans Gh.jh,y.alive,y.keep,y.frames,fun b o e=>⟨(y.old b o e).o,(y.old b o e).i,fun q=>q.elim (y.old b o e).m fun q=>by subst q;exact bR (n.symm.trans e)⟩,y.eX,y.ba,y.mono⟩
theorem aA.Eb (P:aA c A₀ A env L Γ₀ σ₀ s₀ Γ σ s)(le:Γ.Le a0)(st:St c a0 σ' s.heap)(Jf:Step (ai A₀) Γ₀ σ₀ s₀.heap a0 σ' s.heap)(lo:∀b,b≠a→Loose Γ b→Loose a0 b)(ha:s.heap.get? a=some o)(nc:∀v,o.data≠.cell v)(nf:a∉ai A)
  (ap:b9 env L.own s.heap a):aA c A₀ A env L Γ₀ σ₀ s₀ a0 σ' s:=
 P.chg (X:=(·=a)) ⟨le,fun _ _ _ e=>e,lo⟩ (fun b hb q=>nf (q▸hb)) (fun y ca e q=>by
  obtain ⟨_,_,w,o',q1,q2⟩:=P.cells y ca e;subst q;induction cV ha q1;exact nc _ q2) (fun b q=>q▸ap) (.refl s) st Jf
theorem aA.add (P:aA c A₀ A env L Γ₀ σ₀ s₀ Γ σ s)(ha:s.heap.get? a=some o)(l:Loose Γ a)(n0:s₀.heap.get? a=none)(nc:∀v,o.data≠.cell v)(nf:a∉ai A)(ap:b9 env L.own s.heap a):aA c A₀ A env L Γ₀ σ₀ s₀ (Γ.add a o) σ s:=
 P.Eb (Gh.dY l.o) (P.st.add l ha) (P.step.add l n0) (fun b hb lb=>lb.add hb) ha nc nf ap
theorem aA.Ec (P:aA c A₀ A env L Γ₀ σ₀ s₀ Γ σ s)(ha:s.heap.get? a=some o)(l:Loose Γ a)(n0:s₀.heap.get? a=none)(nc:∀v,o.data≠.cell v)(nf:a∉ai A)(ap:b9 env L.own s.heap a):aA c A₀ A env L Γ₀ σ₀ s₀ (Γ.iv a) σ s:=
 P.Eb Gh.jh (P.st.iv l ha) (P.step.iv n0) (fun b hb lb=>lb.iv hb) ha nc nf ap
inductive Gz (c:Cx) (A₀ A:Around) (env:PySem.Env) (L:Ev) (Γ₀:Gh) (σ₀:Sg) (s₀:Shared) (Γ:Gh) (σ:Sg) (s:Shared) (a:Addr):Prop
 |mk (a0:Gh) (P:aA c A₀ A env L Γ₀ σ₀ s₀ a0 σ s) (le:Γ.Le a0) (r:a0.row=some a) (lo:∀b,b≠a→Loose Γ b→Loose a0 b):Gz c A₀ A env L Γ₀ σ₀ s₀ Γ σ s a
theorem aA.Ku {vs:List Value}{n:Nat}{r:List Int}(P:aA c A₀ A env L Γ₀ σ₀ s₀ Γ σ s)(ha:s.heap.get? a=some (aG vs n))(l:Loose Γ a)(nf:a∉ai A)(n0:s₀.heap.get? a=none)(hi:IntsAre vs r)(hz:r.length≤100000)(hr:σ.row=none)
  (ap:b9 env L.own s.heap a):Gz c A₀ A env L Γ₀ σ₀ s₀ Γ {σ with row:=some r} s a:=by
 have gr:Γ.row=none:=P.st.row.no hr
 let a0:Gh:={Γ.iv a with row:=some a}
 have le:Γ.Le a0:=⟨fun _ _ e=>e,fun _ _ e=>e,fun _ e=>.inl e,fun b e=>(by exact bR (gr.symm.trans e)),fun _ e=>e,rfl⟩;have S:=P.st;have y:=P.step;have lo:∀b,b≠a→Loose Γ b→Loose a0 b:=fun b n l=>⟨l.o,l.i,fun q=>q.elim l.m n⟩
 refine ⟨a0,P.Eb le ⟨S.base,S.obj,S.gk,fun b q=>(jS S l ha b q).turn rfl rfl,S.apart2,fg.mk a vs n rfl (.inr rfl) ha hi hz,S.self.imp id fun _ q=>q.mono le,S.tab.mono le⟩ ?_ lo ha (fun v q=>by cases q) nf ap,le,rfl,lo⟩;have y':=y.iv n0;exact ⟨y.le.trans le,y.alive,y.keep,y.frames,fun b o e=>⟨(y.old b o e).o,(y.old b o e).i,(y'.old b o e).m⟩,fun r e=>(by induction Option.some.inj e;exact .inr n0),y.ba,y.mono⟩
end
section
variable {prog:Program}{c:Cx}{A₀ A:Around}{env:PySem.Env}{L L':Ev}{Γ₀ Γ af a0:Gh}{σ₀ σ aa σ':Sg}{s₀ s s₁:Shared}{E:Value→Shared→Prop}{G:Calls}{pre:Heap}{as:List Addr}{v:Value}{x:Str}
inductive Made (c:Cx) (A₀ A:Around) (env:PySem.Env) (L:Ev) (Γ₀:Gh) (σ₀:Sg) (s₀:Shared) (Γ:Gh) (σ:Sg) (s:Shared) (t:T) (v:Value) (as:List Addr):Prop
 |mk (a0:Gh) (P:aA c A₀ A env L Γ₀ σ₀ s₀ a0 σ s) (r:Rep c a0 t v) (le:Γ.Le a0) (lo:∀b,b∉as→Loose Γ b→Loose a0 b):Made c A₀ A env L Γ₀ σ₀ s₀ Γ σ s t v as
theorem aA.Ed {t:T}{k:Kd}(P:aA c A₀ A env L Γ₀ σ₀ s₀ Γ σ s)(y:aF c Γ s.heap (ai A) t k v as)(has:∀a∈as,pre.get? a=none)(rS:∀a,pre.get? a=none→s₀.heap.get? a=none)(ap:Apart env L.own pre s.heap):Made c A₀ A env L Γ₀ σ₀ s₀ Γ σ s t v as:=by
 obtain ⟨G',le,st,r,lo,sp⟩:=y.freeze P.st
 exact ⟨G',P.chg (X:=(·∈as)) ⟨le,fun _ _ _ e=>e,lo⟩ (fun b hb=>y.je hb) (fun y' ca e=>by
  obtain ⟨_,_,w,q⟩:=P.cells y' ca e;exact y.mP q) (fun b hb=>ap b (has b hb)) (.refl s) st (sp _ _ _ _ (fun a ha=>rS a (has a ha)) P.step),r,le,lo⟩
theorem aA.xg {k:Str}{ah:List T}{a d:Addr}{t:Tok}{ii:Value}(P:aA c A₀ A env L Γ₀ σ₀ s₀ Γ σ s)(jf:a≠d)(e1:s.heap.get? a=some (instObj c.vec d))(i1:bx c s.heap d (.str k t,ii,.none))(r1:Rep c Γ (.list ah) ii)(l1:Loose Γ a)(l2:Loose Γ d)(f1:a∉ai A)(f2:d∉ai A)
  (n1:s₀.heap.get? a=none) (n2:s₀.heap.get? d=none) (MN:b9 env L.own s.heap a) (MO:b9 env L.own s.heap d) (hs:σ.self=none):Made c A₀ A env L Γ₀ σ₀ s₀ Γ {σ with self:=some ⟨k,ah,none,0⟩} s .self (.ref a) [a,d]:=by
 have aU:=P.add e1 l1 n1 (fun v q=>by cases q) f1 MN;have Np:=l2.add (o:=instObj c.vec d) jf.symm;have Nq:=Gh.dY (o:=instObj c.vec d) l1.o;have Ph:=Rep.mono Nq _ _ r1;have oa:(Γ.add a (instObj c.vec d)).obj a=some (instObj c.vec d):=Gh.dm;have lo1:∀b,b≠a→Loose Γ b→Loose (Γ.add a (instObj c.vec d)) b:=fun b n l=>l.add n
 generalize Γ.add a (instObj c.vec d)=aj at aU Np Nq Ph oa lo1;have gs:aj.self=none:=aU.st.self.no hs
 let a0:Gh:={aj.iv d with self:=some (a,d)}
 have le:aj.Le a0:=⟨fun _ _ e=>e,fun _ _ e=>e,fun _ e=>.inl e,fun _ e=>e,fun b e=>(by exact bR (gs.symm.trans e)),rfl⟩;have S:=aU.st;have y:=aU.step;have i2:=i1;obtain ⟨o,ed,i⟩:=i2;have y':=y.iv n2;have lo:∀b,b≠d→Loose aj b→Loose a0 b:=fun b n l=>⟨l.o,l.i,fun q=>q.elim l.m n⟩
 have xh:∀v,σ₀.self=some v→False:=fun v e=>by obtain ⟨v',e',_⟩:=y.mono v e;exact bR (hs.symm.trans e')
 exact ⟨a0,aU.Eb le ⟨S.base,S.obj,S.gk,fun b q=>(jS S Np ed b q).turn rfl rfl,S.apart2,S.row.imp id fun _ q=>q.mono le,bT.mk a d ii .none t rfl oa (.inr rfl) i1 (Rep.mono le _ _ Ph) rfl,S.tab.mono le⟩
  ⟨y.le.trans le,y.alive,y.keep,y.frames,fun b o e=>⟨(y.old b o e).o,(y.old b o e).i,(y'.old b o e).m⟩,y.eX,fun v v' e=>(xh v e).elim,fun v e=>(xh v e).elim⟩ lo ed i.nO f2 MO,o7.mk a d rfl,Nq.trans le,
  fun b hb l=>lo b (fun q=>hb (q▸.tail _ (.head _))) (lo1 b (fun q=>hb (q▸.head _)) l)⟩
theorem aA.HX {k:Str}{ah:List T}{kd:Kd}(P:aA c A₀ A env L Γ₀ σ₀ s₀ Γ σ s)(y:aF c Γ s.heap (ai A) (.vec k ah .none) kd v as)(has:∀a∈as,pre.get? a=none)(rS:∀a,pre.get? a=none→s₀.heap.get? a=none)
  (ap:Apart env L.own pre s.heap) (hs:σ.self=none):Made c A₀ A env L Γ₀ σ₀ s₀ Γ {σ with self:=some ⟨k,ah,none,0⟩} s .self v as:=by
 have y':=y;obtain ⟨ps,r,e,_,_⟩:=y'
 cases r with
 |vec=>
  clear e
  cases y.i with
  |mk _ _ t ii ia ne e i r r' l l' f f'=>
  cases r'.none_inv;have h1:=has _ (.head _);have h2:=has _ (.tail _ (.head _));exact P.xg ne e i r l l' f f' (rS _ h1) (rS _ h2) (ap _ h1) (ap _ h2) hs
 |io=>
  clear e
  cases y.o with
  |mk _ _ b t ia vs n ne ne' ny e i e' z r r' l l' C3 f f' I8=>
  cases r'.none_inv;have h1:=has _ (.head _);have h2:=has _ (.tail _ (.head _));have h3:=has _ (.tail _ (.tail _ (.head _)));have ao:=P.add e' C3 (rS _ h3) (fun v q=>by cases q) I8 (ap _ h3);obtain ⟨a0,Q,rr,le,lo⟩:=ao.xg ne e i (eK.mk _ vs n Gh.dm z (az.mono (Gh.dY C3.o) _ _ r):Rep c _ (.list ah) _) (l.add ne') (l'.add ny) f f' (rS _ h1) (rS _ h2) (ap _ h1) (ap _ h2) hs;exact ⟨a0,Q,rr,(Gh.dY C3.o).trans le,fun b hb lb=>lo b (fun q=>hb ((List.mem_cons.mp q).elim (fun q=>q▸.head _) fun q=>List.mem_singleton.mp q▸.tail _ (.head _))) (lb.add fun q=>hb (q▸.tail _ (.tail _ (.head _))))⟩
inductive my (L:Ev) (x:Str) (σ:Sg):T×Kd→Res Ev→Prop
 |row (ts:List T) (r:List Int) (hr:intsOf ts=some r) (hc:σ.row.isNone∧r.length≤aq):my L x σ (.list ts,.own) (.ok (L.ax x .row) {σ with row:=some r})
 |self (k:Str) (ah:List T) (kd:Kd) (hk:kd≠.val) (hs:σ.self.isNone):my L x σ (.vec k ah .none,kd) (.ok (L.ax x .self) {σ with self:=some ⟨k,ah,none,0⟩})
 |own (t:T) (k:Kd) (hk:k≠.val):my L x σ (t,k) (.ok (L.gQ x t k) σ)
 |val (t:T) (k:Kd):my L x σ (t,k) (.ok (L.ax x t) σ)
 |no (t:T×Kd):my L x σ t .stuck
theorem yC (L:Ev)(x:Str)(t:T×Kd)(σ:Sg):my L x σ t (match t with
   |(.list ts,.own)=>(match intsOf ts with
    |some r=>if σ.row.isNone∧r.length≤aq then .ok (L.ax x .row) {σ with row:=some r} else .stuck
    |none=>.stuck)
   |_=>.stuck):=by
 obtain ⟨t,k⟩:=t
 cases t with
 |list ts=>induction k with
  |own=>
   dsimp only
   induction hr:intsOf ts with
   |none=>exact .no _
   |some r=>exact d3 (.row ts r hr) (.no _)
  |_=>exact .no _
 |_=>exact .no _
theorem vj (L:Ev)(x:Str)(t:T×Kd)(σ:Sg):my L x σ t (match t with
   |(.vec k ah .none,.own)=>if σ.self.isNone then .ok (L.ax x .self) {σ with self:=some ⟨k,ah,none,0⟩} else .stuck
   |(.vec k ah .none,.bg)=>if σ.self.isNone then .ok (L.ax x .self) {σ with self:=some ⟨k,ah,none,0⟩} else .stuck
   |(.null,_)=>.ok (L.ax x .null) σ
   |_=>.stuck):=by
 obtain ⟨t,k⟩:=t
 cases t with
 |vec s ah at'=>cases at' with
  |none=>induction k with
   |own=>exact d3 (.self s ah .own (fun q=>nomatch q)) (.no _)
   |bg=>exact d3 (.self s ah .bg (fun q=>nomatch q)) (.no _)
   |_=>exact .no _
  |_=>induction k<;>exact .no _
 |null=>exact .val _ k
 |_=>exact .no _
theorem Bp (L:Ev)(x:Str)(t:T×Kd)(σ:Sg):my L x σ t (bindM L x t σ):=by
 unfold bindM;by_cases h1:(L.cS&&(x="row":Bool))=true
 ·rw [if_pos h1];exact yC L x t σ
 ·rw [if_neg h1];by_cases h2:(L.cS&&(x="v":Bool))=true
  ·rw [if_pos h2];exact vj L x t σ
  ·rw [if_neg h2];by_cases h3:t.2≠.val∧x∈L.mv
   ·rw [if_pos h3];exact .own t.1 t.2 h3.1
   ·rw [if_neg h3];exact .val t.1 t.2
inductive GA (c:Cx) (A₀ A:Around) (env:PySem.Env) (L:Ev) (Γ₀:Gh) (σ₀:Sg) (s₀:Shared) (Γ:Gh) (h:Heap) (x:Str) (t:T×Kd) (v:Value) (res:Res Ev) (s':Shared):Prop
 |mk (L':Ev) (σ':Sg) (a0:Gh) (e:res=.ok L' σ') (P:aA c A₀ A env L' Γ₀ σ₀ s₀ a0 σ' s') (st:qS env L L' h s'.heap x v) (lo:∀b,(∀as,aF c Γ h (ai A) t.1 t.2 v as→b∉as)→Loose Γ b→Loose a0 b):GA c A₀ A env L Γ₀ σ₀ s₀ Γ h x t v res s'
theorem RV.yj {t:T}{k:Kd}{fr:List Addr}{h:Heap}(r:RV c fr pre Γ σ h (t,k) v)(n:k≠.h)(n':k≠.val):cT c fr pre Γ h t k v:=by
 induction k with
 |val=>exact absurd rfl n'
 |h=>exact absurd rfl n
 |own=>exact r
 |bg=>exact r
theorem aA.Bq {t:T}{k:Kd}(P:aA c A₀ A env L Γ₀ σ₀ s₀ Γ σ s)(rv:RV c (ai A) pre Γ σ s.heap (t,k) v)(hn:k≠.h)(rS:∀a,pre.get? a=none→s₀.heap.get? a=none)(ap:Apart env L.own pre s.heap):∃as,(as=[]∨aF c Γ s.heap (ai A) t k v as)∧Made c A₀ A env L Γ₀ σ₀ s₀ Γ σ s t v as:=by
 by_cases hv:k=.val
 ·subst hv;exact ⟨[],.inl rfl,Γ,P,rv,.refl Γ,fun _ _ l=>l⟩
 ·obtain ⟨as,y,has⟩:=RV.yj rv hn hv;exact ⟨as,.inr y,P.Ed y has rS ap⟩
theorem aA.bindM {t:T×Kd}(P:aA c A₀ A env L Γ₀ σ₀ s₀ Γ σ s)(rv:RV c (ai A) pre Γ σ s.heap t v)(hn:t.2≠.h)(rS:∀a,pre.get? a=none→s₀.heap.get? a=none)(ap:Apart env L.own pre s.heap)
  (hk:env.kindOf x=some .local∨env.kindOf x=some .cell) (ne:Internal.bindM L x t σ≠.stuck):wpAny (model prog c.w) A (storeName env x v) (fun _ s'=>GA c A₀ A env L Γ₀ σ₀ s₀ Γ s.heap x t v (Internal.bindM L x t σ) s') E s:=by
 have w:=Bp L x t σ;generalize Internal.bindM L x t σ=o at w ne ⊢
 induction w with
 |row ts r hr hc=>
  obtain ⟨as,y,has⟩:=(show cT c (ai A) pre Γ s.heap (.list ts) .own v from rv);have y':=y
  induction y.l with
  |mk a vs n e z rr l nf=>
  have na:=has a (.head _);obtain ⟨a0,P',le,Nr,lo⟩:=P.Ku (r:=r) e l nf (rS _ na) (ints_of rr hr) (Nat.le_trans hc.2 (by unfold aq;decide)) (Option.isNone_iff_eq_none.mp hc.1) (ap a na);exact P'.store hk (.val .row (rY.mk a Nr)) fun h' tk Br st=>⟨_,_,a0,rfl,Br,st,fun b hb l=>lo b (fun q=>hb _ y' (q▸.head _)) l⟩
 |self k ah kd hv hs=>
  obtain ⟨as,y,has⟩:=RV.yj rv hn hv;obtain ⟨a0,P',r,le,lo⟩:=P.HX y has rS ap (Option.isNone_iff_eq_none.mp hs);exact P'.store hk (.val .self r) fun h' tk Br st=>⟨_,_,a0,rfl,Br,st,fun b hb l=>lo b (hb as y) l⟩
 |own t k h3=>
  obtain ⟨as,y,has⟩:=RV.yj rv hn h3;exact P.store hk (.own t k as y (fun a ha=>rS _ (has a ha)) fun b hb=>ap b (has b hb)) fun h' tk Br st=>⟨_,σ,Γ,rfl,Br,st,fun _ _ l=>l⟩
 |val t k=>
  obtain ⟨as,ho,a0,P',r,le,lo⟩:=P.Bq rv hn rS ap;exact P'.store hk (.val t r) fun h' tk Br st=>⟨_,σ,a0,rfl,Br,st,fun b hb l=>lo b (ho.elim (fun q=>q▸List.not_mem_nil) (hb as)) l⟩
 |no=>exact absurd rfl ne
end
end Mine.Internal
end
section
end
section
namespace Mine.Internal
open PySem PySem.W PyProof.Rows PySem.SeqAt
section
variable {prog:Program}{c:Cx}{A₀ A:Around}{env:PySem.Env}{L L':Ev}{Γ₀ Γ af a0:Gh}{σ₀ σ aa σ':Sg}{s₀ s s₁:Shared}{E:Value→Shared→Prop}{G:Calls}{g f:Str→Bool}
theorem oj {a:Addr}{h h':Heap}(kp:∀b o,b≠a→h.get? b=some o→h'.get? b=some o):mQ Γ Γ h h' (·=a):=⟨.refl Γ,fun b o n e=>kp b o n e,fun _ _ l=>l⟩
theorem aA.Bs {a:Addr}{h':Heap}{tk:Nat}(P:aA c A₀ A env L Γ₀ σ₀ s₀ Γ σ s)(la:Loose Γ a)(na:s₀.heap.get? a=none)(nf:a∉ai A)(nc:∀y ca,env.cells.lookup y=some ca→ca≠a)(no:b9 env L.own s.heap a)
  (kp:∀b o,b≠a→s.heap.get? b=some o→h'.get? b=some o):aA c A₀ A env L Γ₀ σ₀ s₀ Γ σ {s with heap:=h',toks:=tk}∧b9 env L.own h' a:=by
 have W:=fz P.st P.step na la kp;have C:mQ Γ Γ s.heap h' (·=a):=oj kp;exact ⟨P.chg C (fun b hb q=>nf (q▸hb)) nc (fun b q=>q▸no) ⟨h',tk⟩ W.S W.x,C.avoid P (fun b hb q=>nf (q▸hb)) nc (fun b q=>q▸no) no⟩
theorem g0 {x:Str}{px pos:Pos}{v:Expr}:cn G (.Assign [.Name x px] v pos) L=((ag G (settle v L) v>>=Internal.solid)>>=fun t=>Internal.bindM (settle v L) x t>>=fun L'=>(pure (Out.next,L'):M (Out×Ev))):=by
 rw [M.assoc];rfl
theorem gp.assign {x:Str}{px pos:Pos}{v:Expr}(hk:env.kindOf x=some .local∨env.kindOf x=some .cell)(hs:swapsWith v (some (.Name x px)) pos.line env=pure false)(he:bk prog c A env G v):
  gp prog c A₀ A env (cn G (.Assign [.Name x px] v pos)) (exec (.Assign [.Name x px] v pos) env):=by
 intro L Γ₀ σ₀ s₀ Γ σ s P ne;obtain ⟨a0,P',le⟩:=P.settle v;rw [g0] at ne ⊢;refine wpAny_Assign_Name (iG P' ne (he _ _).mS fun t aa af w s₁ _ ao y r ne1 e1=>?_) hs;refine wpAny_mono (ao.bindM r.r r.n (fun a h=>bQ P'.step.alive h) (own_apart P' y) hk (M.aT ne1)) (fun _ s' q=>?_) fun _ _ q=>q
 obtain ⟨L',σ',HY,e2,Br,_,_⟩:=q;exact ⟨.next,L',σ',HY,e1.trans (M.aZ e2),Br,rfl⟩
theorem tj {x:Str}{px:Pos}{t:T×Kd}{C D:Addr}{v:Value}{res:Res (Out×Ev)}(P:aA c A₀ A env L Γ₀ σ₀ s₀ Γ σ s)(X:LE c A Γ σ s C D af aa s₁)(r:RV c (ai A) s.heap af aa s₁.heap t v)(hn:t.2≠.h)
  (hv:∀t' k' as,bG s₁.heap t' k' v as→C∉as)
  (hk:env.kindOf x=some .local∨env.kindOf x=some .cell)
  (ne:Internal.bindM L x t aa≠.stuck) (sV:∀L' σ',Internal.bindM L x t aa=.ok L' σ'→res=.ok (.next,L') σ') {E:Value→Shared→Prop}:
  compPost (model prog c.w) A E (some (PySem.assign (.Name x px) env)) (fun _ s'=>SQ c A₀ A env Γ₀ σ₀ s₀ res .next s') v C (.ok .next) s₁:=by
 have ao:=P.next X.same X.st X.step
 skip
 refine wpAny_assign_Name ?_;have ap:=own_apart P X.step;refine wpAny_mono (ao.bindM r hn (fun a h=>bQ P.step.alive h) ap hk ne) (fun _ s' q=>?_) fun _ _ q=>q
 obtain ⟨L',σ',HY,e2,Br,⟨a,ha,sb,av⟩,lo⟩:=q;obtain ⟨m,hm⟩:=X.ns
 have nc:∀y ca,env.cells.lookup y=some ca→ca≠C:=fun y ca e q=>by
  obtain ⟨_,_,w,c3⟩:=ao.cells y ca e;subst q;exact nQ hm c3
 have QJ:C≠a:=ha.elim (fun q z=>X.nc.nf (z.trans q▸P.inf)) fun q z=>nc x a q z.symm
 refine ⟨m,hm.sameBut sb QJ,fun h' QK=>?_⟩;exact ⟨.next,L',σ',HY,sV _ _ e2,(Br.Bs (lo C (fun as y=>hv _ _ _ y.shape) X.nc.loose) (bQ P.step.alive X.nc.new) X.nc.nf nc (av C (ap C X.nc.new) fun t k _=>hv t k) fun b o n e=>(QK.2 b n).trans e).1,rfl⟩
theorem tn {h:Heap}{D C:Addr}{o:Obj}{t:T}{k:Kd}{as:List Addr}(hD:h.get? D=some o)(ho:o.dict=none)(ne:C≠D)(y:bG h t k (.ref D) as):C∉as:=by
 have one:∀{a:Addr},a=D→C∉[a]:=fun q z=>ne ((List.mem_singleton.mp z).trans q)
 generalize hv:Value.ref D=v at y
 induction y with
 |list _ a=>cases hv;exact one rfl
 |dict _ a=>cases hv;exact one rfl
 |vec _ _ _ a d C e=>cases hv;cases cV hD e;exact Jx ho
 |io _ _ _ a d b C e=>cases hv;cases cV hD e;exact Jx ho
theorem gp.tu {x y:Str}{px py pos vm:Pos}{elt iter:Expr}{ifs:List Expr}{sc:Scope}(ES:bz g f env)(ok:sS f sc y)(hk:env.kindOf x=some .local∨env.kindOf x=some .cell)
  (hs:swapsWith (.ListComp elt [⟨.Name y py,iter,ifs,0⟩] sc pos) (some (.Name x px)) vm.line env=pure true)
  (hi:bk prog c A env G iter) (hT:∀cl C,(bz (aP sc .globalImplicit) (aP sc .free) (compEnvC sc cl C env))→∀e∈ifs,iF prog c A (compEnvC sc cl C env) G e)
  (hE:∀cl C,(bz (aP sc .globalImplicit) (aP sc .free) (compEnvC sc cl C env))→bk prog c A (compEnvC sc cl C env) G elt)
  (hf:∀v,foldedSetIterable iter env v=pure v):
  gp prog c A₀ A env (cn G (.Assign [.Name x px] (.ListComp elt [⟨.Name y py,iter,ifs,0⟩] sc pos) vm)) (exec (.Assign [.Name x px] (.ListComp elt [⟨.Name y py,iter,ifs,0⟩] sc pos) vm) env):=by
 intro L Γ₀ σ₀ s₀ Γ σ s P ne;obtain ⟨a0,P',le⟩:=P.settle (.ListComp elt [⟨.Name y py,iter,ifs,0⟩] sc pos);rw [g0] at ne ⊢;have ne1:=M.aT (M.aT ne);rw [exec_Assign_Name_used _ _ _ _ hs];refine wpAny_bind (wpAny_standAt (wpAny_bind ?_))
 skip
 refine wpAny_bind (wpAny_mono (pR (Q:=fun _ s'=>SQ c A₀ A env Γ₀ σ₀ s₀ (((ag G (settle (.ListComp elt [⟨.Name y py,iter,ifs,0⟩] sc pos) L) (.ListComp elt [⟨.Name y py,iter,ifs,0⟩] sc pos)>>=Internal.solid)>>=fun t=>Internal.bindM (settle (.ListComp elt [⟨.Name y py,iter,ifs,0⟩] sc pos) L) x t>>=fun L'=>(pure (Out.next,L'):M (Out×Ev))) σ) .next s')
  P'.pre ES ok (hi _ _) hT hE hf ne1 (fun v s' q=>(q.Hz P').cast fun m' σ' e=>M.cU (M.cU e)) ?_) (fun _ s' q=>wpAny_pure (wpAny_pure q)) fun _ _ q=>q)
 intro af aa s₁ acc vs m C D X hd rl hz e;have e1:(ag G (settle (.ListComp elt [⟨.Name y py,iter,ifs,0⟩] sc pos) L) (.ListComp elt [⟨.Name y py,iter,ifs,0⟩] sc pos)>>=Internal.solid) σ=.ok (.list acc,.own) aa:=by rw [M.aZ e];rfl
 rw [M.aZ e1] at ne ⊢;have ne2:=M.aT ne;exact tj P' X (t:=(.list acc,.own)) (cT.mk [D] (nu.own ⟨D,vs,m,hd,hz,rl,X.nd.loose,X.nd.nf⟩) (aY X.nd.new)) (fun q=>nomatch q) (fun t' k' as y=>tn hd rfl X.cd y) hk ne2 (fun L' σ' e2=>(M.aZ (f:=fun L'=>(pure (Out.next,L'):M (Out×Ev))) e2).trans rfl)
theorem gp.tv {x y:Str}{px py pos vm:Pos}{kx vx iter:Expr}{ifs:List Expr}{sc:Scope}(fa:Facts c)(ES:bz g f env)(ok:sS f sc y)(hk:env.kindOf x=some .local∨env.kindOf x=some .cell)
  (hs:swapsWith (.DictComp kx vx [⟨.Name y py,iter,ifs,0⟩] sc pos) (some (.Name x px)) vm.line env=pure true)
  (hi:bk prog c A env G iter) (hT:∀cl C,(bz (aP sc .globalImplicit) (aP sc .free) (compEnvC sc cl C env))→∀e∈ifs,iF prog c A (compEnvC sc cl C env) G e)
  (hK:∀cl C,(bz (aP sc .globalImplicit) (aP sc .free) (compEnvC sc cl C env))→bk prog c A (compEnvC sc cl C env) G kx)
  (hE:∀cl C,(bz (aP sc .globalImplicit) (aP sc .free) (compEnvC sc cl C env))→bk prog c A (compEnvC sc cl C env) G vx)
  (hf:∀v,foldedSetIterable iter env v=pure v):
  gp prog c A₀ A env (cn G (.Assign [.Name x px] (.DictComp kx vx [⟨.Name y py,iter,ifs,0⟩] sc pos) vm)) (exec (.Assign [.Name x px] (.DictComp kx vx [⟨.Name y py,iter,ifs,0⟩] sc pos) vm) env):=by
 intro L Γ₀ σ₀ s₀ Γ σ s P ne;obtain ⟨a0,P',le⟩:=P.settle (.DictComp kx vx [⟨.Name y py,iter,ifs,0⟩] sc pos);rw [g0] at ne ⊢;have ne1:=M.aT (M.aT ne);rw [exec_Assign_Name_used _ _ _ _ hs];refine wpAny_bind (wpAny_standAt (wpAny_bind ?_))
 skip
 refine wpAny_bind (wpAny_mono (pS (Q:=fun _ s'=>SQ c A₀ A env Γ₀ σ₀ s₀ (((ag G (settle (.DictComp kx vx [⟨.Name y py,iter,ifs,0⟩] sc pos) L) (.DictComp kx vx [⟨.Name y py,iter,ifs,0⟩] sc pos)>>=Internal.solid)>>=fun t=>Internal.bindM (settle (.DictComp kx vx [⟨.Name y py,iter,ifs,0⟩] sc pos) L) x t>>=fun L'=>(pure (Out.next,L'):M (Out×Ev))) σ) .next s')
  P'.pre ES ok (hi _ _) hT hK hE hf ne1 (fun v s' q=>(q.Hz P').cast fun m' σ' e=>M.cU (M.cU e)) ?_ fa) (fun _ s' q=>wpAny_pure (wpAny_pure q)) fun _ _ q=>q)
 intro af aa s₁ acc ds m C D X nm hd rl nd hz e;have e1:(ag G (settle (.DictComp kx vx [⟨.Name y py,iter,ifs,0⟩] sc pos) L) (.DictComp kx vx [⟨.Name y py,iter,ifs,0⟩] sc pos)>>=Internal.solid) σ=.ok (.dict acc,.own) aa:=by rw [M.aZ e];rfl
 rw [M.aZ e1] at ne ⊢;have ne2:=M.aT ne;exact tj P' X (t:=(.dict acc,.own)) (cT.mk [D] (k9.own ⟨D,ds,m,nm,hd,hz,nd,rl,X.nd.loose,X.nd.nf⟩) (aY X.nd.new)) (fun q=>nomatch q) (fun t' k' as y=>tn hd rfl X.cd y) hk ne2 (fun L' σ' e2=>(M.aZ (f:=fun L'=>(pure (Out.next,L'):M (Out×Ev))) e2).trans rfl)
end
open Classical in
noncomputable def kF (S:Addr→Prop)(h:Heap):Heap:={h with objs:=h.objs.mapIdx fun i o=>if S i then {o with data:=.freed} else o}
theorem g9 {S:Addr→Prop}{h:Heap}{a:Addr}(x:S a):(kF S h).get? a=none:=by
 unfold kF Heap.get?;rw [Array.getElem?_mapIdx]
 induction h.objs[a]? with
 |none=>rfl
 |some o=>
  rw [Option.map_some,if_pos x]
theorem cZ {S:Addr→Prop}{h:Heap}{a:Addr}(x:¬S a):(kF S h).get? a=h.get? a:=by
 unfold kF Heap.get?;rw [Array.getElem?_mapIdx]
 induction h.objs[a]? with
 |none=>rfl
 |some o=>
  rw [Option.map_some,if_neg x]
section
variable {prog:Program}{c:Cx}{A₀ A:Around}{env:PySem.Env}{L L':Ev}{Γ₀ Γ af a0:Gh}{σ₀ σ aa σ':Sg}{s₀ s s₁ aJ:Shared}{E:Value→Shared→Prop}{G:Calls}
inductive tw (A₀ A:Around) (env:PySem.Env) (own:List (Str×T×Kd)) (f:Str→List Addr) (b:Addr):Prop
 |fr (h:b∈ai A) (n:b∉ai A₀∨b=env.locals):tw A₀ A env own f b
 |cell (y:Str) (e:env.cells.lookup y=some b):tw A₀ A env own f b
 |own (p:Str×T×Kd) (hp:p∈own) (hb:b∈f p.1):tw A₀ A env own f b
inductive Rebase (c:Cx) (A₀ A:Around) (env:PySem.Env) (L:Ev) (Γ₀:Gh) (σ₀:Sg) (s₀:Shared) (Γ:Gh) (σ:Sg) (s:Shared):Prop
 |mk (s₁:Shared) (P:aA c A₀ A env L Γ σ s₁ Γ σ s) (y:Step (ai A₀) Γ₀ σ₀ s₀.heap Γ σ s₁.heap) (sm:b0 s₀ s₁) (has:∀b o,s.heap.get? b=some o→b∉ai A→(∀y ca,env.cells.lookup y=some ca→ca≠b)→b9 env L.own s.heap b→s₁.heap.get? b=some o):Rebase c A₀ A env L Γ₀ σ₀ s₀ Γ σ s
theorem aA.rebase (P:aA c A₀ A env L Γ₀ σ₀ s₀ Γ σ s):Rebase c A₀ A env L Γ₀ σ₀ s₀ Γ σ s:=by
 have E:=P.cX;obtain ⟨e1,e2,e3,m,e4,e5,e6,f,e7,e8,e9,Bt⟩:=E
 have old:∀{b o},s₀.heap.get? b=some o→¬tw A₀ A env L.own f b:=fun {b o} e q=>by
  induction q with
  |fr h1 h2=>exact h2.elim (fun h2=>(P.new b h1).elim h2 fun q=>by exact bR (q.symm.trans e)) fun q=>by subst q;exact bR (P.fresh.symm.trans e)
  |cell y h=>obtain ⟨n,_⟩:=P.cells y b h;exact bR (n.symm.trans e)
  |own p hp hb=>exact bR ((Bt p hp b hb).symm.trans e)
 have lo:∀{b},tw A₀ A env L.own f b→Loose Γ b:=fun {b} q=>by
  induction q with
  |fr h1 _=>obtain ⟨_,_,_,l⟩:=P.fr.alive h1;exact l
  |cell y h=>obtain ⟨_,l,_⟩:=P.cells y b h;exact l
  |own p hp hb=>obtain ⟨v,_,q⟩:=e7 p hp;exact (q.iC b hb).l
 have back:∀b o,(kF (tw A₀ A env L.own f) s.heap).get? b=some o→s.heap.get? b=some o:=fun b o e=>by
  by_cases q:tw A₀ A env L.own f b
  ·exact bR ((g9 q).symm.trans e)
  ·exact (cZ q).symm.trans e
 have Pj:St c Γ σ (kF (tw A₀ A env L.own f) s.heap):=P.st.only fun b o n e=>(cZ fun q=>n (lo q)).trans e
 induction P.same with|mk hh ht=>?_
 refine ⟨{s₀ with heap:=kF _ _},⟨Pj,⟨hh,ht⟩,P.st,P.fr,⟨e1,e2,e3,m,e4,e5,e6,f,e7,e8,e9,fun p hp b hb=>g9 (.own p hp hb)⟩,Step.keeps back Pj,P.inf,P.top,P.frame,P.sub,fun b hb=>?_,g9 (.fr P.inf (.inr rfl)),fun x ca e=>?_,P.apart,P.kinds,P.uS⟩,
  P.step.only (fun b o e _=>cZ (old e)) (fun b DB o e e'=>⟨o.slots,(cZ (old e)).trans e'⟩) (fun b m=>cZ fun q=>(lo q).m m),⟨_,s₀.toks⟩,fun b o e nf nc no=>(cZ fun q=>?_).trans e⟩
 ·by_cases q:b∈ai A₀
  ·exact .inl q
  ·exact .inr (g9 (.fr hb (.inl q)))
 ·obtain ⟨_,q1,w,q2⟩:=P.cells x ca e;exact ⟨g9 (.cell x e),q1,w,q2⟩
 ·induction q with
  |fr h=>exact nf h
  |cell y h=>exact nc y b h rfl
  |own p hp hb=>exact no.out e4 e7 p hp hb
theorem aA.lF {aj:Gh}{au:Sg}(P:aA c A₀ A env L Γ₀ σ₀ s₀ Γ σ s)(y:Step (ai A₀) Γ₀ σ₀ s₀.heap Γ σ s₁.heap)(sm:b0 s₀ s₁)(Q:aA c A₀ A env L' Γ σ s₁ aj au aJ):aA c A₀ A env L' Γ₀ σ₀ s₀ aj au aJ:=by
 obtain ⟨e1,e2,e3,m,e4,e5,e6,f,e7,e8,e9,Bt⟩:=Q.cX
 exact ⟨P.fh,sm.trans Q.same,Q.st,Q.fr,⟨e1,e2,e3,m,e4,e5,e6,f,e7,e8,e9,fun p hp b hb=>bQ y.alive (Bt p hp b hb)⟩,Step.trans P.fh y Q.step,Q.inf,P.top,P.frame,P.sub,P.new,P.fresh,
  fun x ca e=>by
   obtain ⟨n,_⟩:=P.cells x ca e;obtain ⟨_,l,w,q⟩:=Q.cells x ca e;exact ⟨n,l,w,q⟩,P.apart,P.kinds,P.uS⟩
theorem RV.lF {fr:List Addr}{h₀ h₁ h:Heap}{t:T×Kd}{v:Value}(k:∀x o,h₀.get? x=some o→∃o',h₁.get? x=some o')(r:RV c fr h₁ Γ σ h t v):RV c fr h₀ Γ σ h t v:=bu _ _ _ _ _ _ _ k r
theorem SE.lF {α:Type}{res:Res α}{e:Value}(P:aA c A₀ A env L Γ₀ σ₀ s₀ Γ σ s)(y:Step (ai A₀) Γ₀ σ₀ s₀.heap Γ σ s₁.heap)(sm:b0 s₀ s₁)(q:SE c A₀ A Γ σ s₁ res e aJ):SE c A₀ A Γ₀ σ₀ s₀ res e aJ:=by
 induction q with|mk m σ' a0 ea _ h1 h3 h4 h5 h6 h7=>?_
 exact ⟨m,σ',a0,ea,_,h1,sm.trans h3,h4,Step.trans P.fh y h5,h6,h7.back y.alive⟩
end
section
variable {prog:Program}{c:Cx}{A₀ A:Around}{env:PySem.Env}{L L':Ev}{Γ₀ Γ af a0:Gh}{σ₀ σ aa σ':Sg}{s₀ s s₁ aJ:Shared}{E:Value→Shared→Prop}{G:Calls}{h h':Heap}
abbrev Sd (prog:Program)(c:Cx)(A₀ A:Around)(env:PySem.Env)(G:Calls)(st:Stmt):Prop:=gp prog c A₀ A env (cn G st) (exec st env)
abbrev xi (prog:Program)(c:Cx)(A₀ A:Around)(env:PySem.Env)(G:Calls)(b:List Stmt):Prop:=gp prog c A₀ A env (fun L=>ak G b L) (execs b env)
theorem gp.never {m:Ev→M (Out×Ev)}{X:Sem Flow}(h:∀L σ,m L σ=.stuck):gp prog c A₀ A env m X:=fun L _ _ _ _ σ _ _ ne=>absurd (h L σ) ne
theorem Sd.pass {pos:Pos}:Sd prog c A₀ A env G (.Pass pos):=fun L Γ₀ σ₀ s₀ Γ σ s P ne=>wpAny_Pass ⟨.next,L,σ,Γ,rfl,P,rfl⟩
theorem Sd.continue_ {pos:Pos}:Sd prog c A₀ A env G (.Continue pos):=fun L Γ₀ σ₀ s₀ Γ σ s P ne=>wpAny_Continue ⟨.cont,L,σ,Γ,rfl,P,rfl⟩
theorem Sd.Nt {pos:Pos}:Sd prog c A₀ A env G (.Return none pos):=fun L Γ₀ σ₀ s₀ Γ σ s P ne=>wpAny_Return_none ⟨.ret .none .val,L,σ,Γ,rfl,P,mI.mk .none (fG Rep.me)⟩
theorem cT.less {fr kg:List Addr}{pre:Heap}{t:T}{k:Kd}{v:Value}(r:cT c fr pre Γ h t k v)(sub:∀b∈kg,b∈fr):cT c kg pre Γ h t k v:=by
 obtain ⟨as,y,n⟩:=r;exact ⟨as,y.less sub,n⟩
theorem RV.less {fr kg:List Addr}{pre:Heap}{t:T×Kd}{v:Value}(r:RV c fr pre Γ σ h t v)(sub:∀b∈kg,b∈fr):RV c kg pre Γ σ h t v:=by
 obtain ⟨t,k⟩:=t
 induction k with
 |val=>exact r
 |h=>exact r
 |own=>exact cT.less r sub
 |bg=>exact cT.less r sub
theorem aF.rv {fr:List Addr}{pre:Heap}{t:T}{k:Kd}{v:Value}{as:List Addr}(y:aF c Γ h fr t k v as)(n:∀a∈as,pre.get? a=none):RV c fr pre Γ σ h (t,k) v:=by
 have y':=y;obtain ⟨ps,r,e,_,_⟩:=y';clear e;induction r<;>exact cT.mk as y n
inductive Kv (c:Cx) (A:Around) (env:PySem.Env) (L:Ev) (old:Heap) (Γ:Gh) (h:Heap) (x:Str) (t:T) (k:Kd):Prop
 |mk (f:Str→List Addr) (m:Str→Option Value) (v:Value) (ns:h.Ns env.locals m) (b:jH Γ h env m x v) (y:aF c Γ h (ai A) t k v (f x)) (n:∀a∈f x,old.get? a=none) (o:zY c Γ h (ai A) env m L.own f) (ap:∀p∈L.own,p.1≠x→∀a∈f p.1,a∉f x):Kv c A env L old Γ h x t k
theorem aA.own {x:Str}{t:T}{k:Kd}(P:aA c A₀ A env L Γ₀ σ₀ s₀ Γ σ s)(hx:L.own.lookup x=some (t,k)):Kv c A env L s₀.heap Γ s.heap x t k:=by
 obtain ⟨m,e4,e5,e6,f,e7,e8,e9,Bt⟩:=P.cX.bound;have hm:(x,t,k)∈L.own:=lookup_mem hx;obtain ⟨v,b,q⟩:=e7 _ hm;exact ⟨f,m,v,e4,b,q,Bt _ hm,e7,fun p hp jf a ha=>e8 p hp _ hm jf a ha⟩
theorem pW {e:Expr}{pos:Pos}{res:Res (Out×Ev)}(he:bk prog c A env G e)(P:aA c A₀ A env L Γ₀ σ₀ s₀ Γ σ s)(hr:res=((ag G L e>>=Internal.solid)>>=fun t=>(pure (Out.ret t.1 t.2,L):M (Out×Ev))) σ)(ne:res≠.stuck):Gi prog c A₀ A env Γ₀ σ₀ s₀ res (exec (.Return (some e) pos) env) s:=by
 subst hr;exact wpAny_Return_some (iG P ne (he _ _).mS fun t aa aj w s₁ _ aU y r ne1 e1=>⟨.ret t.1 t.2,L,aa,aj,e1,aU,mI.mk w (RV.lF P.step.alive (r.r.less P.sub))⟩)
theorem vn {e:Expr}(n:¬∃x p,e=.Name x p):optName e=none:=by
 cases e with
 |Name x p=>exact absurd ⟨_,_,rfl⟩ n
 |_=>rfl
theorem Sd.ret {e:Expr}{pos:Pos}(hd:∀x p,e=.Name x p→(x == ("__debug__":Str))=false∧(x == ("__classdict__":Str))=false)(he:bk prog c A env G e):Sd prog c A₀ A env G (.Return (some e) pos):=by
 intro L Γ₀ σ₀ s₀ Γ σ s P ne;by_cases hn:∃x p,e=.Name x p
 ·obtain ⟨x,p,rfl⟩:=hn;obtain ⟨d1,d2⟩:=hd x p rfl;have ev:cn G (.Return (some (.Name x p)) pos) L=(match L.own.lookup x with|some (t,k)=>pure (Out.ret t k,L)|none=>(ag G L (.Name x p)>>=fun t=>pure (Out.ret t.1 t.2,L))):=rfl;rw [ev] at ne ⊢
  induction hx:L.own.lookup x with
  |some tk=>
   obtain ⟨f,m,v,hm,b,q,nn,_⟩:=P.own hx;exact wpAny_Return_some (cJ P.cX.kind hm b d1 d2 ⟨.ret tk.1 tk.2,L,σ,Γ,rfl,P,mI.mk v ((q.less P.sub).rv nn)⟩)
  |none=>
   rw [hx] at ne;refine pW he P ?_ ne;show ((ay (wF L x)>>=val)>>=fun t=>(pure (Out.ret t.1 t.2,L):M (Out×Ev))) σ=(((ay (wF L x)>>=val)>>=Internal.solid)>>=fun t=>(pure (Out.ret t.1 t.2,L):M (Out×Ev))) σ;induction wF L x<;>rfl
 ·obtain ⟨a0,P',le⟩:=P.settle e;refine pW he P' ?_ ne;show retS G L (some e) σ=_;unfold retS;dsimp only;rw [vn hn,M.assoc]
theorem Sd.QL {t:Expr}{b o:List Stmt}{pos:Pos}(ht:iF prog c A env G t)(hb:xi prog c A₀ A env G b)(ho:xi prog c A₀ A env G o):Sd prog c A₀ A env G (.If t b o pos):=by
 intro L Γ₀ σ₀ s₀ Γ σ s P ne;obtain ⟨a0,P',le⟩:=P.settle t
 exact wpAny_If (iG (f:=fun c=>if c=true then ak G b (settle t L) else ak G o (settle t L)) P' ne (ht _ _) fun HZ aa af b' s₁ e ao y r ne1 e1=>by
  cases r
  induction HZ with
  |true=>exact Gi.of e1 (hb _ _ _ _ _ _ _ ao ne1)
  |false=>exact Gi.of e1 (ho _ _ _ _ _ _ _ ao ne1))
theorem xi.nil:xi prog c A₀ A env G []:=fun L Γ₀ σ₀ s₀ Γ σ s P ne=>wpAny_execs_nil ⟨.next,L,σ,Γ,rfl,P,rfl⟩
theorem xi.cons {st:Stmt}{r:List Stmt}(h:Sd prog c A₀ A env G st)(hr:xi prog c A₀ A env G r):xi prog c A₀ A env G (st::r):=by
 intro L Γ₀ σ₀ s₀ Γ σ s P ne;have ev:ak G (st::r) L=(cn G st L>>=fun q=>match q with|(.next,L')=>ak G r L'|r=>pure r):=by first|rfl|(rw [ak];rfl)
 dsimp only at ne ⊢;rw [ev] at ne ⊢;refine wpAny_execs_cons (wpAny_mono (h L _ _ _ _ _ _ P (M.aT ne)) (fun f s' q=>?_) fun e s' q=>q.cast fun m σ' e=>M.cU e);obtain ⟨o,L',σ',a0,e,P',fl⟩:=q;have e1:=M.aZ (f:=fun q:Out×Ev=>match q with|(.next,L')=>ak G r L'|r=>pure r) e
 induction o with
 |next=>cases (show f=.next from fl);exact Gi.of e1 (hr L' _ _ _ _ _ _ P' fun q=>ne (e1.trans q))
 |cont=>cases (show f=.cont from fl);exact ⟨.cont,L',σ',a0,e1,P',rfl⟩
 |ret t k=>induction (show mI c A₀ s₀ a0 σ' s'.heap (t,k) f from fl) with
  |mk v y=>exact ⟨.ret t k,L',σ',a0,e1,P',mI.mk v y⟩
inductive Kw (c:Cx) (A₀ A:Around) (env:PySem.Env) (G:Calls) (Γ₀:Gh) (σ₀:Sg) (s₀:Shared) (t:Expr) (b:List Stmt) (res:Res (Out×Ev)) (n:Nat) (s₁:Shared):Prop
 |mk (dI:Ev) (af:Gh) (aa:Sg) (P:aA c A₀ A env dI Γ₀ σ₀ s₀ af aa s₁) (e:iB t (fun L=>bO G L t (ag G L t)) (fun L=>ak G b L) n dI aa=res):Kw c A₀ A env G Γ₀ σ₀ s₀ t b res n s₁
theorem vo {t:Expr}{T:Ev→M Bool}{B:Ev→M (Out×Ev)}{n:Nat}{dI:Ev}:iB t T B (n+1) dI=(T (settle t dI)>>=fun c=>if c=true then (B (settle t dI)>>=fun r=>match r with
    |(.ret t k,L')=>pure (.ret t k,L')
    |(_,L')=>iB t T B n L') else pure (.next,settle t dI)):=rfl
theorem Sd.om {t:Expr}{b:List Stmt}{pos:Pos}(ht:iF prog c A env G t)(hb:xi prog c A₀ A env G b):Sd prog c A₀ A env G (.While t b [] pos):=by
 intro L Γ₀ σ₀ s₀ Γ σ s P ne;generalize sV:cn G (.While t b [] pos) L σ=res at ne ⊢;have pass:=SE.passes (prog:=prog) (res:=res) P;refine wpAny_While (codeAny_whileLoop (Kw c A₀ A env G Γ₀ σ₀ s₀ t b res) ?_ dK ⟨L,Γ,σ,P,sV⟩)
 rintro n s₁ ⟨dI,af,aa,ao,e⟩
 obtain ⟨Nu,Kx,le⟩:=ao.settle t
 induction n with
 |zero=>exact absurd e.symm ne
 |succ n=>
  rw [vo] at e;refine wpAny_mono (iG Kx (fun q=>ne (e.symm.trans q)) (ht _ _) fun HZ au aj b' aJ eb aU y r ne1 e1=>?_) (fun _ _ q=>q) fun e' s' q=>pass e' s' (q.cast fun _ _ z=>e.symm.trans z)
  cases r;have e1:=e.symm.trans e1;clear e
  induction HZ with
  |false=>exact wpAny_execs_nil ⟨.next,settle t dI,au,aj,e1,aU,rfl⟩
  |true=>
   refine wpAny_mono (hb _ _ _ _ _ _ _ aU (M.aT ne1)) (fun f jK q=>?_) fun e' s' q=>pass e' s' (q.cast fun m σ' G8=>e1.trans (M.cU G8))
   obtain ⟨o,L',d0,cW,e3,jL,fl⟩:=q;have e4:=e1.trans (M.aZ e3);clear e1
   induction o with
   |next=>cases (show f=.next from fl);exact ⟨n,Nat.lt_succ_self n,L',cW,d0,jL,e4.symm⟩
   |cont=>cases (show f=.cont from fl);exact ⟨n,Nat.lt_succ_self n,L',cW,d0,jL,e4.symm⟩
   |ret t' k=>induction (show mI c A₀ s₀ cW d0 jK.heap (t',k) f from fl) with
    |mk v y=>exact ⟨.ret t' k,L',d0,cW,e4,jL,mI.mk v y⟩
end
section
variable {prog:Program}{c:Cx}{A₀ A:Around}{env:PySem.Env}{L L':Ev}{Γ₀ Γ af a0:Gh}{σ₀ σ aa σ':Sg}{s₀ s s₁ aJ:Shared}{E:Value→Shared→Prop}{G:Calls}{h h':Heap}{it:Addr}{k:Kd}
theorem cP.over {rest:List T}(x:cP prog c A k it rest Γ σ h)(hk:k≠.h)(hi:∀o,h.get? it=some o→h'.get? it=some o)(S:∀b o,Γ.obj b=some o→h.get? b=some o)(S':∀b o,Γ.obj b=some o→h'.get? b=some o)(le:Γ.Le af):cP prog c A k it rest af aa h':=by
 obtain ⟨fp,n,P,Q,i,W,q,hn,hf,hv,ha⟩:=x
 have fx:∀{b o},Src Γ σ k b o h→Γ.obj b=some o:=fun r=>by
  induction r with
  |fix e=>exact e
  |Gk q=>exact absurd q hk
 refine ⟨fp,n,P,Q,i,W,W.frame _ _ _ q fun b hb o e=>?_,hn,fun b hb=>(hf b hb).imp fun o r=>.fix (le.obj _ _ (fx r)),fun j v hj hp=>(hv j v hj hp).mono le,ha⟩;rcases hf b hb with rfl|⟨o',r⟩
 ·exact hi o e
 ·induction cV (S _ _ (fx r)) e;exact S' _ _ (fx r)
structure Ee (prog:Program) (c:Cx) (A₀ A:Around) (env:PySem.Env) (Γ₀:Gh) (σ₀:Sg) (s₀:Shared) (k:Kd) (it:Addr) (rest:List T) (L:Ev) (Γ:Gh) (σ:Sg) (s:Shared):Prop where
 P:aA c A₀ A env L Γ₀ σ₀ s₀ Γ σ s
 mw:cP prog c A k it rest Γ σ s.heap
 lo:Loose Γ it
 nf:it∉ai A
 n0:s₀.heap.get? it=none
 nc:∀y ca,env.cells.lookup y=some ca→ca≠it
 no:b9 env L.own s.heap it
noncomputable def pg (r:Out×Ev):M (Out×Ev):=match r with
 |(.cont,L')=>pure (.next,L')
 |r=>pure r
inductive H0 (prog:Program) (c:Cx) (A₀ A:Around) (env:PySem.Env) (G:Calls) (Γ₀:Gh) (σ₀:Sg) (s₀:Shared) (k:Kd) (it:Addr) (x:Str) (b:List Stmt) (res:Res (Out×Ev)):Nat→Shared→Prop
 |mk (rest:List T) (vp:Ev) (aj:Gh) (au:Sg) (aJ:Shared) (X:Ee prog c A₀ A env Γ₀ σ₀ s₀ k it rest vp aj au aJ) (e:(forL x (fun L=>ak G b L) rest vp>>=pg) au=res):H0 prog c A₀ A env G Γ₀ σ₀ s₀ k it x b res rest.length aJ
theorem yD {x:Str}{B:Ev→M (Out×Ev)}{t:T}{r:List T}{L:Ev}:(forL x B (t::r) L>>=pg)=(B (L.ax x t)>>=fun q=>(match q with
    |(.ret t k,L')=>pure (.ret t k,L')
    |(_,L')=>forL x B r L')>>=pg):=M.assoc _ _ _
theorem Bu {x:Str}{px:Pos}{b:List Stmt}{t:T}{r:List T}{vp:Ev}{aj:Gh}{au:Sg}{aJ:Shared}{res:Res (Out×Ev)}{h₁:Heap}{kD:Tok}{v:Value}{E:Value→Shared→Prop}(hk:env.kindOf x=some .local∨env.kindOf x=some .cell)(hb:xi prog c A₀ A env G b)(LY:k≠.h)
  (X:Ee prog c A₀ A env Γ₀ σ₀ s₀ k it (t::r) vp aj au aJ) (rv:Rep c aj t v) (mw:cP prog c A k it r aj au h₁) (kp:∀b o,b≠it→aJ.heap.get? b=some o→h₁.get? b=some o) (ne:res≠.stuck) (eq:(forL x (fun L=>ak G b L) (t::r) vp>>=pg) au=res)
  (pass:∀e s',SE c A₀ A Γ₀ σ₀ s₀ res e s'→E e s') {Q:Flow→Shared→Prop} {E':Value→Shared→Prop}
  (q1:∀fl s',(fl=.next∨fl=.cont)→H0 prog c A₀ A env G Γ₀ σ₀ s₀ k it x b res r.length s'→Q fl s') (q2:∀v s',SQ c A₀ A env Γ₀ σ₀ s₀ res (.ret v) s'→Q (.ret v) s'):
  wpAny (model prog c.w) A (PySem.assign (.Name x px) env v) (fun _ jK=>wpAny (model prog c.w) A (execs b env) Q E jK) E' {aJ with heap:=h₁,toks:=kD}:=by
 refine (X.P.Bs (tk:=kD) X.lo X.n0 X.nf X.nc X.no kp).elim fun jL Ky=>?_
 refine wpAny_assign_Name (jL.store hk (.val t rv) fun fj Gm H2 st=>?_);obtain ⟨a,ha,sb,av⟩:=st;have jf:it≠a:=ha.elim (fun q z=>X.nf (z.trans q▸X.P.inf)) fun q z=>X.nc _ _ q z.symm
 have hit:∀o,h₁.get? it=some o→fj.get? it=some o:=fun o e=>(sb.2 it jf).trans e
 obtain ⟨DV,Nv,H3,sm,has⟩:=H2.rebase;have Nw:=(congrFun yD au).symm.trans eq;refine wpAny_mono (hb _ _ _ _ _ _ _ Nv (M.aT fun q=>ne (Nw.symm.trans q))) (fun fl DX q=>?_) fun e' s' q=>pass e' s' (SE.lF H2 H3 sm (q.cast fun m σ' G8=>Nw.symm.trans (M.cU G8)))
 obtain ⟨o,L',d0,cW,e3,vq,LX⟩:=q;have e4:=Nw.symm.trans (M.aZ e3);have Kz:=H2.lF H3 sm vq;refine (mw.alive).elim fun oi Pk=>?_
 have vt:=has it _ (hit _ Pk) X.nf X.nc (av it Ky fun t' k' hm=>absurd rfl (bI hm).2)
 have Pl:Ee prog c A₀ A env Γ₀ σ₀ s₀ k it r L' cW d0 DX:=by
  refine ⟨Kz,mw.over LY (fun o e=>by induction cV Pk e;exact vq.step.keep it oi vt X.lo.m X.lo.i (fun q=>X.nf (X.P.sub _ q))) (fun b o e=>jL.st.obj b o e) (fun b o e=>vq.st.obj b o (vq.step.le.obj b o e)) vq.step.le,X.lo.old vq.step vt,X.nf,X.n0,X.nc,?_⟩;obtain ⟨m,e4,_,_,f,e7,_,_,Bt⟩:=vq.cX.bound;exact b9.of e4 e7 fun p hp q=>by exact bR ((Bt p hp it q).symm.trans vt)
 induction o with
 |next=>exact q1 _ _ (.inl LX) ⟨r,L',cW,d0,_,Pl,e4.symm⟩
 |cont=>exact q1 _ _ (.inr LX) ⟨r,L',cW,d0,_,Pl,e4.symm⟩
 |ret t' k'=>induction (show mI c A₀ DV cW d0 DX.heap (t',k') fl from LX) with
  |mk v' y=>exact q2 _ _ ⟨.ret t' k',L',d0,cW,e4,Kz,mI.mk v' (RV.lF H3.alive y)⟩
theorem Nx {k:Kd}{f:Unit→M (Out×Ev)}{σ:Sg}(ne:(dO k>>=f) σ≠.stuck):k≠.h:=fun q=>ne (by unfold dO;rw [if_pos q];rfl)
theorem Sd.Bv {x:Str}{px pos:Pos}{e:Expr}{b:List Stmt}(hk:env.kindOf x=some .local∨env.kindOf x=some .cell)(hf:∀v,foldedSetIterable e env v=pure v)(he:bk prog c A env G e)(hb:xi prog c A₀ A env G b):
  Sd prog c A₀ A env G (.For (.Name x px) e b [] pos):=by
 intro L Γ₀ σ₀ s₀ Γ σ s P ne;obtain ⟨a0,P',le⟩:=P.settle e;refine wpAny_For (iG (f:=fun (s:T×Kd)=>dO s.2>>=fun _=>iterM s.1>>=fun l=>forL x (fun L=>ak G b L) l (settle e L)>>=pg) P' ne (he _ _).kA fun a aa af w s₁ _ ao y r ne1 e1=>?_) hf;obtain ⟨t,k⟩:=a;have LY:=Nx ne1;have e2:(dO k>>=fun _=>iterM t>>=fun l=>forL x (fun L=>ak G b L) l (settle e L)>>=pg) aa=(iterM t>>=fun l=>forL x (fun L=>ak G b L) l (settle e L)>>=pg) aa:=by unfold dO;rw [if_neg LY];rfl
 obtain ⟨l,hl⟩:=kz (f:=fun l=>forL x (fun L=>ak G b L) l (settle e L)>>=pg) fun q=>ne1 (e2.trans q)
 have e3:cn G (.For (.Name x px) e b [] pos) L σ=(forL x (fun L=>ak G b L) l (settle e L)>>=pg) aa:=e1.trans (e2.trans (lB (q:=fun l=>forL x (fun L=>ak G b L) l (settle e L)>>=pg) (σ:=aa) hl));clear e1 e2 ne1;generalize sV:cn G (.For (.Name x px) e b [] pos) L σ=res at ne e3 ⊢;have pass:=SE.passes (prog:=prog) (res:=res) ao;refine qW ao.pre r hl fun o mw=>?_
 have hn:=bp s₁.heap;have Jf:Step (ai A) af aa s₁.heap af aa (s₁.heap.push o):=Step.keeps aL ao.st
 have KA:Ee prog c A₀ A env Γ₀ σ₀ s₀ k s₁.heap.objs.size l (settle e L) af aa {s₁ with heap:=s₁.heap.push o}:=
  ⟨ao.next (b0.mk' s₁ _ _) (ao.st.keeps aL) Jf,mw,ao.st.loose hn,ao.fr.fresh hn,bQ ao.step.alive hn,fun y ca e q=>(by
   obtain ⟨_,_,w,o',q1,_⟩:=ao.cells y ca e;subst q;exact bR (hn.symm.trans q1)),own_apart ao Jf _ hn⟩
 generalize s₁.heap.objs.size=it at KA ⊢;refine codeAny_forLoop (H0 prog c A₀ A env G Γ₀ σ₀ s₀ k it x b res) ?_ l.length ⟨l,settle e L,af,aa,_,KA,e3.symm⟩
 rintro n aJ ⟨rest,vp,aj,au,_,X,eq⟩
 induction rest with
 |nil=>exact cP.done X.mw fun h' tk kp=>wpAny_execs_nil ⟨.next,vp,au,aj,eq.symm,(X.P.Bs X.lo X.n0 X.nf X.nc X.no kp).1,rfl⟩
 |cons t r=>
  refine cP.item X.mw X.lo fun v h₁ kD rv mw kp=>Bu hk hb LY X rv mw kp ne eq pass (fun fl s' GB q=>?_) fun v s' q=>?_
  ·rcases GB with rfl|rfl
   ·exact ⟨r.length,Nat.lt_succ_self _,q⟩
   ·exact ⟨r.length,Nat.lt_succ_self _,q⟩
  ·exact q
end
section
variable {prog:Program}{c:Cx}{A₀ A:Around}{env:PySem.Env}{L L':Ev}{Γ₀ Γ af a0:Gh}{σ₀ σ aa σ':Sg}{s₀ s s₁ aJ:Shared}{E:Value→Shared→Prop}{G:Calls}{h h':Heap}{k:Kd}
theorem Bw {M:Model}{m:Str→Option Value}{x:Str}{v:Value}{Q:Value→Shared→Prop}(hk:env.scope.kind=.function)(hn:s.heap.Ns env.locals m)(b:jH Γ s.heap env m x v)
  (hc:(x == ("__classdict__":Str))=false) (h:Q v s):wpAny M A (loadName env x) Q E s:=by
 induction b with
 |loc h1 h2=>exact wpAny_loadName_local hk h1 hn h2 h
 |cell k ca h1 h2 h3 h4 h5=>
  rcases h1 with rfl|rfl
  ·exact wpAny_loadName_cell hk h2 h3 h4 h
  ·exact wpAny_loadName_free hk h2 h3 h4 h hc
theorem aA.toks (P:aA c A₀ A env L Γ₀ σ₀ s₀ Γ σ s)(tk:Nat):aA c A₀ A env L Γ₀ σ₀ s₀ Γ σ {s with toks:=tk}:=
 P.next (s₁:={s with toks:=tk}) ⟨s.heap,tk⟩ P.st (Step.refl ..)
theorem RF.rep {pre:Heap}{t:T×Kd}{v:Value}(r:RF c pre Γ σ h t v)(n:Af t.1=false):Rep c Γ t.1 v:=pD.nE (RF.weak r (pre:=pre)) n
inductive Ef:Operator→T→T→Option T→Prop
 |add (x y:Int):Ef .Add (.int x) (.int y) (some (.int (x+y)))
 |sub (x y:Int):Ef .Sub (.int x) (.int y) (some (.int (x - y)))
 |no (op:Operator) (a b:T):Ef op a b none
theorem Eg (op:Operator)(a b:T):Ef op a b (o6 op a b):=by
 induction op with
 |Add=>cases a with
  |int x=>cases b with
   |int y=>exact .add x y
   |_=>exact .no ..
  |_=>exact .no ..
 |Sub=>cases a with
  |int x=>cases b with
   |int y=>exact .sub x y
   |_=>exact .no ..
  |_=>exact .no ..
 |_=>exact .no ..
theorem Sd.aug {x:Str}{px pos:Pos}{op:Operator}{v:Expr}(hk:env.kindOf x=some .local∨env.kindOf x=some .cell)(hc:(x == ("__classdict__":Str))=false)(he:bk prog c A env G v):
  Sd prog c A₀ A env G (.AugAssign (.Name x px) op v pos):=by
 intro L Γ₀ σ₀ s₀ Γ σ s P ne;obtain ⟨a0,P',le⟩:=P.settle v;have ev:cn G (.AugAssign (.Name x px) op v pos) L=(ay (L.loc x)>>=fun a=>ag G (settle v L) v>>=fun b=>ay (o6 op a b.1)>>=fun c=>pure (Out.next,(settle v L).ax x c)):=rfl;rw [ev] at ne ⊢
 induction hx:L.loc x with
 |none=>rw [hx] at ne;exact absurd rfl ne
 |some a=>
  rw [hx] at ne;obtain ⟨e1,e2,e3,m,e4,e5,e6,_⟩:=P.cX;obtain ⟨w,bw,Hp⟩:=e6 x a hx;refine wpAny_AugAssign_Name (Bw e1 e4 bw hc (iG (f:=fun (b:T×Kd)=>ay (o6 op a b.1)>>=fun c=>pure (Out.next,(settle v L).ax x c)) P' ne (he _ _).kA fun b aa af u s₁ _ ao y r ne1 e1=>?_));have ra:=Rep.mono (le.trans y.le) _ _ Hp;have wv:=Eg op a b.1;have rb:Af b.1=false→Rep c af b.1 u:=r.rep
  have fin:∀{i:Int} {tk:Nat} {t:Tok},o6 op a b.1=some (.int i)→wpAny (model prog c.w) A (storeName env x (.int i t)) (fun _=>SQ c A₀ A env Γ₀ σ₀ s₀ ((ay (some a)>>=fun a=>ag G (settle v L) v>>=fun b=>ay (o6 op a b.1)>>=fun c=>pure (Out.next,(settle v L).ax x c)) σ) .next) (SE c A₀ A Γ₀ σ₀ s₀ ((ay (some a)>>=fun a=>ag G (settle v L) v>>=fun b=>ay (o6 op a b.1)>>=fun c=>pure (Out.next,(settle v L).ax x c)) σ)) {s₁ with toks:=tk}:=by
   intro i tk t e;rw [e] at e1;exact (ao.toks tk).store hk (.val (.int i) Rep.int) fun h' LN aU _=>⟨.next,_,aa,af,e1,aU,rfl⟩
  clear e1;generalize b.1=bb at wv ne1 rb fin;generalize o6 op a bb=o at wv ne1 fin
  induction wv with
  |no=>exact absurd rfl ne1
  |add x y=>induction ra.int_inv;induction (rb rfl).int_inv;exact iadd_int (fin rfl)
  |sub x y=>induction ra.int_inv;induction (rb rfl).int_inv;exact isub_int (fin rfl)
inductive lG:List Expr→Option (List Str)→Prop
 |nil:lG [] (some [])
 |cons (x:Str) (p:Pos) (r:List Expr) (ys:List Str) (h:bS r=some ys):lG (.Name x p::r) (some (x::ys))
 |no (es:List Expr):lG es none
theorem yE (es:List Expr):lG es (bS es):=by
 induction es with
 |nil=>exact .nil
 |cons e r=>cases e with
  |Name x p=>
   show lG _ ((bS r).map (x::·))
   induction h:bS r with
   |none=>exact .no _
   |some ys=>exact .cons x p r ys h
  |_=>exact .no _
theorem namesW {es:List Expr}{xs:List Str}(h:bS es=some xs):lG es (some xs):=h▸yE es
theorem kG:∀{elts:List Expr} {xs:List Str},bS elts=some xs→(assignEach elts env).length=xs.length∧(assignEach elts env).findIdx? (·.1)=none
 |[],_,h=>by induction Option.some.inj h;exact ⟨rfl,rfl⟩
 |e::r,_,h=>by
  cases namesW h with
  |cons x p _ ys h1=>
   obtain ⟨i1,i2⟩:=kG h1;refine ⟨congrArg Nat.succ i1,?_⟩;show List.findIdx? _ ((false,assign (.Name x p) env)::assignEach r env)=none;rw [List.findIdx?_cons,i2];rfl
theorem oo {Q:Unit→Shared→Prop}:∀{elts:List Expr} {xs:List Str} {ts:List T} {vs:List Value} {L:Ev} {s:Shared},bS elts=some xs→(∀x∈xs,env.kindOf x=some .local∨env.kindOf x=some .cell)→az c Γ ts vs→aA c A₀ A env L Γ₀ σ₀ s₀ Γ σ s→ts.length=xs.length→
  (∀s',aA c A₀ A env (bindAll L xs ts) Γ₀ σ₀ s₀ Γ σ s'→Q () s')→wpAny (model prog c.w) A (assignInOrder ((assignEach elts env).map (·.2)) vs) Q E s
 |[],_,ts,vs,L,s,h,hx,r,P,hl,q=>by
  induction Option.some.inj h
  induction ts with
  |nil=>cases (show _=[] from r);exact wpAny_pure (q s P)
  |cons _ _=>cases hl
 |e::r,_,ts,vs,L,s,h,hx,rl,P,hl,q=>by
  cases namesW h with
  |cons x p _ ys h1=>
  induction ts with
  |nil=>cases hl
  |cons t ts=>
   induction rl with|mk v vs r1 r2=>?_
   show wpAny _ A (assignInOrder (assign (.Name x p) env::(assignEach r env).map (·.2)) (v::vs)) Q E s
   skip
   exact wpAny_bind (wpAny_holding (wpAny_assign_Name (P.store (hx x (.head _)) (.val t r1) fun h' tk ao _=>oo h1 (fun y hy=>hx y (.tail _ hy)) r2 ao (Nat.succ.inj hl) q)))
theorem tup_ne {α:Type}{t:T×Kd}{f:List T→M α}{σ:Sg}(ne:(match t with|(.tup ts,_)=>f ts|_=>stuck) σ≠.stuck):∃ts k,t=(.tup ts,k):=by
 obtain ⟨t,k⟩:=t
 cases t with
 |tup ts=>exact ⟨ts,k,rfl⟩
 |_=>exact absurd rfl ne
theorem Sd.tuple {elts:List Expr}{kx:_}{Eh pos:Pos}{v:Expr}{xs:List Str}(hx:bS elts=some xs)(hk:∀x∈xs,env.kindOf x=some .local∨env.kindOf x=some .cell)
  (hs:swapsWithSole [.Tuple elts kx Eh] v pos.line env=pure false) (hw:swappedStores [.Tuple elts kx Eh] v env=pure none) (he:bk prog c A env G v):Sd prog c A₀ A env G (.Assign [.Tuple elts kx Eh] v pos):=by
 intro L Γ₀ σ₀ s₀ Γ σ s P ne;obtain ⟨a0,P',le⟩:=P.settle v
 have ev:cn G (.Assign [.Tuple elts kx Eh] v pos) L=(ag G (settle v L) v>>=fun t=>match t with
  |(.tup ts,_)=>if ts.length=xs.length then pure (.next,bindAll (settle v L) xs ts) else stuck
  |_=>stuck):=by
  show (ay (bS elts)>>=fun xs=>ag G (settle v L) v>>=fun t=>match t with
   |(.tup ts,_)=>if ts.length=xs.length then pure (Out.next,bindAll (settle v L) xs ts) else (stuck:M (Out×Ev))
   |_=>stuck)=_
  rw [hx];rfl
 rw [ev] at ne ⊢
 refine Assign_Tuple (iG (f:=fun (t:T×Kd)=>match t with
  |(.tup ts,_)=>if ts.length=xs.length then pure (Out.next,bindAll (settle v L) xs ts) else stuck
  |_=>stuck) P' ne (he _ _).kA fun t aa af w s₁ _ ao y r ne1 e1=>?_) hs hw
 obtain ⟨ts,kt,rfl⟩:=tup_ne ne1;by_cases hl:ts.length=xs.length
 ·have e1:=e1.trans (congrFun (if_pos hl:(if ts.length=xs.length then (pure (Out.next,bindAll (settle v L) xs ts):M (Out×Ev)) else stuck)=_) aa);induction (RF.rep r rfl).cu with|mk a vs n o z rl=>?_
  have ha:=ao.st.obj _ _ o;obtain ⟨n1,n2⟩:=kG (env:=env) hx;refine assign_Tuple_tuple (items:=vs.toArray) ao.fr.handled ⟨_,ha,rfl,n,rfl⟩ (n1.trans (hl.symm.trans rl.length.symm)) n2 fun h' he=>?_
  have kp:∀b o,s₁.heap.get? b=some o→h'.get? b=some o:=fun b o e=>he b o (Nat.ne_of_lt (Heap.lt_size e)) e
  have aU:aA c A₀ A env (settle v L) Γ₀ σ₀ s₀ af aa {s₁ with heap:=h'}:=ao.next (b0.mk' s₁ _ _) (ao.st.keeps kp) (Step.keeps kp ao.st);exact oo hx hk rl aU hl fun s' jL=>⟨.next,_,aa,af,e1,jL,rfl⟩
 ·exact absurd (congrFun (if_neg hl:(if ts.length=xs.length then (pure (Out.next,bindAll (settle v L) xs ts):M (Out×Ev)) else stuck)=_) aa) ne1
noncomputable def q7:Expr→Bool
 |.Call (.Attribute ..) _ _ _=>false
 |_=>true
theorem vy {e:Expr}(hm:q7 e=true):C2 e=.no:=by
 cases e with
 |Call f as ks p=>cases f with
  |Attribute=>exact d9 hm
  |_=>rfl
 |_=>rfl
theorem Sd.expr {e:Expr}{pos:Pos}(hm:q7 e=true)(hi:interactive env=false)(hs:swapsWith e none pos.line env=pure false)(he:bk prog c A env G e):Sd prog c A₀ A env G (.Expr e pos):=by
 intro L Γ₀ σ₀ s₀ Γ σ s P ne;obtain ⟨a0,P',le⟩:=P.settle e
 have ev:cn G (.Expr e pos) L=(ag G (settle e L) e>>=fun _=>pure (.next,settle e L)):=by
  show nr G L e=_;unfold nr;rw [vy hm]
 rw [ev] at ne ⊢;exact wpAny_Expr_any (iG (f:=fun _=>pure (Out.next,settle e L)) P' ne (he _ _) fun t aa af w s₁ _ ao y r ne1 e1=>⟨.next,_,aa,af,e1,ao,rfl⟩) hi hs
end
section
variable {prog:Program}{c:Cx}{A₀ A:Around}{I:Inv (ai A)}{env:PySem.Env}{L L':Ev}{Γ₀ Γ af a0:Gh}{σ₀ σ aa σ':Sg}{s₀ s s₁ aJ:Shared}{E:Value→Shared→Prop}{G:Calls}{h h':Heap}{k:Kd}
noncomputable def vz (x:Str)(t':T)(p:Str×T×Kd):Str×T×Kd:=if p.1=x then (p.1,t',p.2.2) else p
theorem oq {x:Str}{t':T}(p:Str×T×Kd):(vz x t' p).1=p.1:=by unfold vz;split<;>rfl
inductive KC (c:Cx) (A₀ A:Around) (env:PySem.Env) (L:Ev) (Γ₀:Gh) (σ₀:Sg) (s₀:Shared) (Γ:Gh) (σ:Sg) (s:Shared) (x:Str) (t:T) (k:Kd):Prop
 |mk (v:Value) (as:List Addr) (m:Str→Option Value) (ns:s.heap.Ns env.locals m) (b:jH Γ s.heap env m x v) (y:aF c Γ s.heap (ai A) t k v as) (n:∀a∈as,s₀.heap.get? a=none)
   (put:∀a h' tk t',a∈as→Heap.SameBut a s.heap h'→aF c Γ h' (ai A) t' k v as→aA c A₀ A env (L.bL x t') Γ₀ σ₀ s₀ Γ σ {s with heap:=h',toks:=tk}):KC c A₀ A env L Γ₀ σ₀ s₀ Γ σ s x t k
theorem aA.mut {x:Str}{t:T}(P:aA c A₀ A env L Γ₀ σ₀ s₀ Γ σ s)(hx:L.own.lookup x=some (t,k)):KC c A₀ A env L Γ₀ σ₀ s₀ Γ σ s x t k:=by
 obtain ⟨m,e4,e5,e6,f,e7,e8,e9,Bt⟩:=P.cX.bound;have Ei:(x,t,k)∈L.own:=lookup_mem hx;obtain ⟨v,b,q⟩:=e7 _ Ei;refine ⟨v,f x,m,e4,b,q,Bt _ Ei,fun a h' tk t' ha sb q'=>?_⟩;have lz:=q.iC a ha;have W:=dC P.st P.step (Bt _ Ei a ha) lz.l sb;have C:mQ Γ Γ s.heap h' (·=a):=oj fun b o n e=>(sb.2 b n).trans e
 have nf:∀b∈ai A,b≠a:=fun b hb q=>lz.f (q▸hb)
 have nc:∀y ca,env.cells.lookup y=some ca→ca≠a:=fun y ca e q'=>by
  obtain ⟨_,_,w,c3⟩:=P.cells y ca e;exact q.mP c3 (q'▸ha)
 have own:∀p∈L.own.map (vz x t'),kj c Γ h' (ai A) env m p (f p.1):=List.forall_mem_map.mpr fun ph ot=>by
  rw [oq];by_cases hn:ph.1=x
  ·obtain ⟨y,p⟩:=ph;cases (show y=x from hn);cases Option.some.inj ((gU e9 ot).symm.trans hx);exact (show vz x t' (x,t,k)=(x,t',k) from if_pos rfl)▸⟨v,C.Jc nc b,q'⟩
  ·exact (show vz x t' ph=ph from if_neg hn).symm▸C.DM nc (fun b hb q=>e8 ph ot _ Ei hn b hb (q▸ha)) (e7 ph ot)
 have e:(L.own.map (vz x t')).map (fun p=>p.1)=L.own.map (fun p=>p.1):=(List.map_map ..).trans (List.map_congr_left fun p _=>oq p);have ok:eY c s₀.heap Γ h' (ai A) env m (L.own.map (vz x t')):=⟨f,own,List.forall_mem_map.mpr fun ph ot=>List.forall_mem_map.mpr fun Ny KD jf=>(by rw [oq,oq] at jf ⊢;exact e8 ph ot Ny KD jf),e.symm▸e9,List.forall_mem_map.mpr fun ph ot=>(by rw [oq];exact Bt ph ot)⟩;exact P.re ⟨h',tk⟩ W.S (C.DN nf P.fr) W.x (fun y ca e=>C.uU (nc y ca e) (P.cells y ca e)) ⟨m,C.ns (nf _ P.inf) e4,e5,fun y u hy=>(e6 y u hy).turn (.refl _) fun _=>C.Jc nc,ok⟩
inductive pX:T→Str→String→String→Prop
 |append (ts:List T):pX (.list ts) "append" "list" "list.append"
 |reverse (ts:List T):pX (.list ts) "reverse" "list" "list.reverse"
 |pop (es:List (Str×T)):pX (.dict es) "pop" "dict" "dict.pop"
theorem Bx {t:T}{m:Str}(h:nq t m=true):∃Tn id,pX t m Tn id:=by
 cases t with
 |list=>
  rcases of_decide_eq_true h with h|h
  ·subst h;exact ⟨_,_,.append _⟩
  ·subst h;exact ⟨_,_,.reverse _⟩
 |dict=>cases of_decide_eq_true h;exact ⟨_,_,.pop _⟩
 |_=>exact d9 h
theorem H4 {t:T}{m:Str}{Tn id:String}{v:Value}{as:List Addr}{pos:Pos}{trees:List (Bool×Sem Value)}{Q:Value→Shared→Prop}(x:pX t m Tn id)(y:aF c Γ s.heap (ai A) t k v as)
  (h:wpAny (model prog c.w) A (callWith pos (.builtin id) [v] trees []) Q E s):MethodOn prog c.w A m pos v trees Q E s:=by
 have lk:=y.look
 induction x with
 |append ts=>
  obtain ⟨a,vs,n,e,_⟩:=(show eK s.heap.get? aG (az c Γ ts) v from lk);exact ⟨_,_,F.plainAttrs_list,F.slot_list_append,F.type_list_append,⟨_,e,rfl⟩,fun a e'=>by cases e';exact ⟨_,e,rfl⟩,h⟩
 |reverse ts=>
  obtain ⟨a,vs,n,e,_⟩:=(show eK s.heap.get? aG (az c Γ ts) v from lk);exact ⟨_,_,F.plainAttrs_list,F.slot_list_reverse,F.type_list_reverse,⟨_,e,rfl⟩,fun a e'=>by cases e';exact ⟨_,e,rfl⟩,h⟩
 |pop es=>
  induction (show gE s.heap.get? (es.map (·.1)) (aW c Γ es) v from lk) with|mk a ds n nm e _=>?_
  exact ⟨_,_,F.plainAttrs_dict,F.slot_dict_pop,F.type_dict_pop,⟨_,e,rfl⟩,fun a e'=>by cases e';exact ⟨_,e,rfl⟩,h⟩
theorem az.reverse:∀{ts:List T} {vs:List Value},az c Γ ts vs→az c Γ ts.reverse vs.reverse
 |[],_,h=>by cases (show _=[] from h);exact az.nil
 |t::ts,_,h=>by
  induction h with|mk v r h2 h3=>?_
  rw [List.reverse_cons,List.reverse_cons];exact az.append (az.reverse h3) (az.one h2)
theorem q8 {k:Str}{v:Value}{q:List (Str×Value)}:without ((k,v)::q) k=without q k:=by
 unfold without;rw [List.filter_cons_of_neg (by simp)]
theorem q9 {k key:Str}{v:Value}{q:List (Str×Value)}(h:k≠key):without ((k,v)::q) key=(k,v)::without q key:=by
 unfold without;rw [List.filter_cons_of_pos (by simpa using h)]
theorem cR.del {key:Str}:∀{es:List (Str×T)} {pL:List (Str×Value)},cR c Γ es pL→(es.map (·.1)).Nodup→cR c Γ (cD es key) (without pL key)
 |[],_,h,_=>by cases (show _=[] from h);rfl
 |(k,t)::es,_,h,nd=>by
  induction h with|mk v q r1 r2=>?_
  refine (List.nodup_cons.mp nd).elim fun n1 n2=>?_
  show cR c Γ (if k=key then es else (k,t)::cD es key) _;by_cases hk:k=key
  ·subst hk;rw [if_pos rfl,q8,without_of_not_mem _ _ (cR.names r2▸n1)];exact r2
  ·rw [if_neg hk,q9 hk];exact mn.mk v _ r1 (cR.del r2 n2)
theorem iK {key:Str}:∀{es:List (Str×T)},(cD es key).length≤es.length
 |[]=>Nat.le_refl _
 |(k,t)::es=>by
  show (if k=key then es else (k,t)::cD es key).length≤_;by_cases hk:k=key
  ·rw [if_pos hk];exact Nat.le_succ _
  ·rw [if_neg hk];exact Nat.succ_le_succ iK
theorem iL {α:Type}{key k:Str}{a:α}{r:List (Str×α)}(h:k≠key):((k,a)::r).lookup key=r.lookup key:=by rw [List.lookup_cons,beq_false_of_ne fun q=>h q.symm]
theorem iM {α:Type}{key:Str}{a:α}{r:List (Str×α)}:((key,a)::r).lookup key=some a:=by rw [List.lookup_cons,beq_self_eq_true]
theorem lH {key:Str}:∀{es:List (Str×T)} {pL:List (Str×Value)},cR c Γ es pL→(valueAt pL key).isSome=(es.lookup key).isSome
 |[],_,r=>by cases (show _=[] from r);rfl
 |(k,t)::es,_,r=>by
  induction r with|mk v q r1 r2=>?_
  have:=lH (key:=key) r2;unfold valueAt at this ⊢;rw [List.find?_cons];by_cases hk:k=key
  ·subst hk;rw [iM,decide_eq_true rfl];rfl
  ·rw [iL hk,decide_eq_false hk];exact this
theorem mz {key:Str}:∀{es:List (Str×T)},es.lookup key=none→cD es key=es
 |[],_=>rfl
 |(k',t')::es,h=>by
  show (if k'=key then es else (k',t')::cD es key)=_;by_cases hk:k'=key
  ·subst hk;exact Jx (iM.symm.trans h)
  ·rw [if_neg hk,mz ((iL hk).symm.trans h)]
inductive pj:T→String→List T→Option T→Prop
 |append (l:List T) (u:T) (h:l.length < 2000):pj (.list l) "list.append" [u] (some (.list (l++[u])))
 |reverse (l:List T):pj (.list l) "list.reverse" [] (some (.list l.reverse))
 |pop (es:List (Str×T)) (k:Str):pj (.dict es) "dict.pop" [.str k,.none] (some (.dict (cD es k)))
 |no (t:T) (id:String) (ts:List T):pj t id ts none
theorem Ej {ts:List T}{k:Str}(h:Dh ts=some k):ts=[.str k,.none]:=by
 rcases ts with _|⟨a,_|⟨b,_|_⟩⟩
 ·exact bR h
 ·exact bR h
 ·cases b with
  |none=>cases a with
   |str k'=>exact (Option.some.inj h)▸rfl
   |_=>exact bR h
  |_=>exact bR h
 ·exact bR h
theorem By (es:List (Str×T))(ts:List T):pj (.dict es) "dict.pop" ts (gh (.dict es) "pop" ts):=by
 show pj _ _ _ ((Dh ts).map fun k=>T.dict (cD es k))
 cases h:Dh ts with
 |none=>exact .no ..
 |some k=>cases Ej h;exact .pop es k
theorem Ek {t:T}{m:Str}{Tn id:String}(x:pX t m Tn id)(ts:List T):pj t id ts (gh t m ts):=by
 induction x with
 |append l=>cases ts with
  |nil=>exact .no ..
  |cons u r=>cases r with
   |cons=>exact .no ..
   |nil=>exact d3 (P:=pj (.list l) "list.append" [u]) (fun h=>.append l u h.2) (.no ..)
 |reverse l=>cases ts with
  |nil=>exact .reverse l
  |cons u r=>cases r with
   |cons=>exact .no ..
   |nil=>
    show pj _ _ _ (if ("reverse":Str)="append"∧l.length < 2000 then some (.list (l++[u])) else none);rw [if_neg fun q=>absurd q.1 (by decide)];exact .no ..
 |pop es=>exact By es ts
inductive KG (c:Cx) (A:Around) (Γ:Gh) (s:Shared) (t':T) (k:Kd) (v:Value) (as:List Addr):Shared→Prop
 |mk (a:Addr) (h':Heap) (tk:Nat) (ha:a∈as) (sb:Heap.SameBut a s.heap h') (y:aF c Γ h' (ai A) t' k v as):KG c A Γ s t' k v as {s with heap:=h',toks:=tk}
theorem El (ws:List Value)(n:Nat):∃n',Obj.mapSeq (fun x=>x.reverse) (aG ws n)=aG ws.reverse n':=by
 refine ⟨if ws.toArray.reverse.size == ws.toArray.size then n else n+1,?_⟩;show ({cls:=.type "list",dict:=none,data:=.seq ws.toArray.reverse (if ws.toArray.reverse.size == ws.toArray.size then n else n+1),slots:=#[]}:Obj)=_;rw [List.reverse_toArray]
theorem aF.Pm {l:List T}{v:Value}{as:List Addr}{h:Heap}(y:aF c Γ h (ai A) (.list l) k v as):k=.own∧nu c Γ h (ai A) l v as:=by
 have y':=y;obtain ⟨ps,r,e,_,_⟩:=y';clear e
 cases r with
 |list=>exact ⟨rfl,y.l⟩
theorem aF.Pn {l:List (Str×T)}{v:Value}{as:List Addr}{h:Heap}(y:aF c Γ h (ai A) (.dict l) k v as):k=.own∧k9 c Γ h (ai A) l v as:=by
 have y':=y;obtain ⟨ps,r,e,_,_⟩:=y';clear e
 cases r with
 |dict=>exact ⟨rfl,y.d⟩
theorem Em {t t':T}{id:String}{v:Value}{as:List Addr}{ts:List T}{vs:List Value}(x:pj t id ts (some t'))(y:aF c Γ s.heap (ai A) t k v as)(rl:az c Γ ts vs):
  wpAny (model prog c.w) A (call (.builtin id) (v::vs)) (fun _ s'=>KG c A Γ s t' k v as s') E s:=by
 cases x with
 |append l u hz=>
  induction rl.gX with|mk w ru=>?_
  obtain ⟨rfl,a,ws,n,ea,z,LZ,l1,nf⟩:=y.Pm;refine wpAny_list_append_plain ⟨n,ea⟩ (fun h' hp sb=>?_) z;refine (hp).elim fun n' hp=>?_
  exact .mk a h' s.toks (.head _) sb (nu.own ⟨a,ws++[w],n',hp.trans (by rw [List.push_toArray]),by rw [List.length_append,LZ.length,bC];exact Nat.le_trans (Nat.succ_le_of_lt hz) (by decide),az.append LZ (az.one ru),l1,nf⟩)
 |reverse l=>
  cases (show _=[] from rl);obtain ⟨rfl,a,ws,n,ea,z,LZ,l1,nf⟩:=y.Pm;refine call_meets F.slot_list_reverse ⟨_,ea,rfl⟩ F.entry_list_reverse (F.args_list_reverse_1 _) (PySem.AutoSeq1.list_reverse_list_0 a ws.toArray n z) ⟨ea,?_⟩;refine (El ws n).elim fun n' e1=>?_
  have e2:(s.heap.update a (Obj.mapSeq fun x=>x.reverse)).get? a=some (aG ws.reverse n'):=by
   rw [Heap.get?_update_self _ ea (by rw [e1];rfl),e1]
  exact .mk a _ s.toks (.head _) (Heap.SameBut.update ..) (nu.own ⟨a,ws.reverse,n',e2,(List.length_reverse ..).symm▸z,az.reverse LZ,l1,nf⟩)
 |pop es key=>
  induction rl with|mk v1 r1 q1 rl=>?_
  induction az.gX rl with|mk v2 q2=>?_
  induction Rep.str_inv q1 with
  |mk tk=>
  obtain ⟨rfl,a,ds,n,nm,ea,z,nd,rd,l1,nf⟩:=y.Pn;have HJ:=jd rd;have Po:=eB (prog:=prog) ea rd nd;have Pp:=strKind_is prog c.w key tk;have hv:=lH (key:=key) HJ
  induction Nz:valueAt (kvsOf es ds) key with
  |none=>
   have hd:cD es key=es:=mz (Option.isSome_eq_false_iff.mp (by rw [←hv,Nz];rfl) |> Option.isNone_iff_eq_none.mp);exact call_meetsIn F.slot_dict_pop ⟨_,ea,rfl⟩ F.entry_dict_pop (F.args_dict_pop_3 _ _ _) (meets_dict_pop_default (strKind prog c.w) a Pp nm rfl v2) ⟨_,Po,Nz,.mk a s.heap (s.toks+1) (.head _) ⟨rfl,fun _ _=>rfl⟩ (hd.symm▸k9.own ⟨a,ds,n,nm,ea,z,nd,rd,l1,nf⟩)⟩
  |some u=>
   refine call_meetsIn F.slot_dict_pop ⟨_,ea,rfl⟩ F.entry_dict_pop (F.args_dict_pop_3 _ _ _) (meets_dict_pop_there (strKind prog c.w) a Pp [v2] (.inr ⟨v2,rfl⟩) rfl) ⟨_,u,Po,dE rd▸rd.length▸z,Nz,fun h' qR sb=>?_⟩;obtain ⟨eN,n',q1,q2,q3⟩:=fA qR (cR.del HJ nd);exact .mk a h' (s.toks+1) (.head _) sb (k9.own ⟨a,eN,n',nm,q1,q2.length▸Nat.le_trans iK (rd.length▸z),q3,q2,l1,nf⟩)
end
section
variable {prog:Program}{c:Cx}{A₀ A:Around}{I:Inv (ai A)}{env:PySem.Env}{L L':Ev}{Γ₀ Γ af aj a0:Gh}{σ₀ σ aa au σ':Sg}{s₀ s s₁ aJ:Shared}{E:Value→Shared→Prop}{G:Calls}{h h':Heap}{k:Kd}
theorem aC.tx {m:M (T×Kd)}{X:Sem Value}(h:aC prog c A I (RV c (ai A)) m X):aC prog c A I (RS c) (m>>=Internal.solid) X:=h.solid
inductive KH (c:Cx) (A₀ A:Around) (env:PySem.Env) (L:Ev) (Γ₀:Gh) (σ₀:Sg) (s₀:Shared) (Γ:Gh) (σ:Sg) (s:Shared) (x:Str) (t:T) (k:Kd) (v:Value):Prop
 |mk (as:List Addr) (y:aF c Γ s.heap (ai A) t k v as) (n:∀a∈as,s₀.heap.get? a=none)
   (put:∀a h' tk t',a∈as→Heap.SameBut a s.heap h'→aF c Γ h' (ai A) t' k v as→aA c A₀ A env (L.bL x t') Γ₀ σ₀ s₀ Γ σ {s with heap:=h',toks:=tk}):KH c A₀ A env L Γ₀ σ₀ s₀ Γ σ s x t k v
theorem aA.lI {x:Str}{t:T}{v:Value}{m:Str→Option Value}(P:aA c A₀ A env L Γ₀ σ₀ s₀ Γ σ s)(aU:aA c A₀ A env L Γ₀ σ₀ s₀ aj au aJ)(hx:L.own.lookup x=some (t,k))(hm:s.heap.Ns env.locals m)(b:jH Γ s.heap env m x v)
  (z:Step (ai A) Γ σ s.heap aj au aJ.heap):KH c A₀ A env L Γ₀ σ₀ s₀ aj au aJ x t k v:=by
 obtain ⟨r5,as,m₂,h1,h2,h3,h4,h5⟩:=aU.mut hx;obtain ⟨AI,e4,e5,_⟩:=P.cX.bound;induction Ns.det h1 (z.ns e5 hm).1;induction h2.nv.det (b.step z).nv;exact ⟨as,h3,h4,h5⟩
theorem tA {as:List Expr}{p:Pos}(hs:∀e∈as,noStar e=true)(hl:as.length < 20):(((backTo p (starEach as env)).all (fun x=>!x.1)&&(backToKw p (keywordEach [] env)).all fun x=>x.fst.isSome)&&decide ((as.length+([]:List Keyword).length+if ([]:List Keyword).isEmpty=true then 0 else 1) < 30))=true:=by
 rw [jN hs];exact decide_eq_true (show as.length < 30 from Nat.lt_trans hl (by decide))
noncomputable def Bz (own:List (Str×T×Kd))(x m:Str)(f:T→M (Out×Ev)):M (Out×Ev):=match own.lookup x with
 |some (t,_)=>if nq t m then f t else stuck
 |none=>stuck
theorem En {own:List (Str×T×Kd)}{x m:Str}{f:T→M (Out×Ev)}{σ:Sg}(ne:Bz own x m f σ≠.stuck):∃t k,own.lookup x=some (t,k)∧nq t m=true∧Bz own x m f σ=f t σ:=by
 unfold Bz at ne ⊢
 induction hx:own.lookup x with
 |none=>rw [hx] at ne;exact absurd rfl ne
 |some tk=>
  obtain ⟨t,k⟩:=tk;rw [hx] at ne;by_cases hm:nq t m=true
  ·exact ⟨t,k,rfl,hm,congrFun (if_pos hm) σ⟩
  ·exact absurd (congrFun (if_neg hm) σ) ne
theorem Sd.NA {x m:Str}{px ap p pos:Pos}{as:List Expr}(d1:(x == ("__debug__":Str))=false)(d2:(x == ("__classdict__":Str))=false)(sC:(ap.endLine == p.line)=true)(hl:as.length < 20)(hs:∀e∈as,noStar e=true)(hi:interactive env=false)
  (h:∀old L q,aC prog c A (cg c old (ai A) env L) (zC c) (br G L as) (spliced (backTo q (starEach as env)))):Sd prog c A₀ A env G (.Expr (.Call (.Attribute (.Name x px) m ap) as [] p) pos):=by
 intro L Γ₀ σ₀ s₀ Γ σ s P ne;obtain ⟨a0,P',le⟩:=P.settle (.Tuple as 0 p);obtain ⟨t,k,hx,hm,ev⟩:=En (own:=(settle (.Tuple as 0 p) L).own) (x:=x) (m:=m) (f:=fun t=>br G (settle (.Tuple as 0 p) L) as>>=fun ts=>ay (gh t m (ts.map fun (y:T×Kd)=>y.1))>>=fun t=>pure (Out.next,(settle (.Tuple as 0 p) L).bL x t)) ne;have ev:cn G (.Expr (.Call (.Attribute (.Name x px) m ap) as [] p) pos) L σ=_:=ev;rw [ev] at ne ⊢;clear ev;generalize settle (.Tuple as 0 p) L=dI at ne P' hx ⊢;obtain ⟨Tn,id,X⟩:=Bx hm;obtain ⟨v,LO,mm,hn,b,y,n0,_⟩:=P'.mut hx;refine wpAny_Expr_any (wpAny_Call_method_late (gV rfl) (tA hs hl) sC rfl (cJ P'.cX.kind hn b d1 d2 (H4 X y (Calls.callWith_builtin (dD hs) (aC.args hs (iG (f:=fun (ts:List (T×Kd))=>ay (gh t m (ts.map fun (x:T×Kd)=>x.1))>>=fun t=>pure (Out.next,dI.bL x t)) P' ne (h _ _ p) fun ts au aj vs aJ e2 aU z rt ne2 e3=>?_)))))) hi rfl;obtain ⟨GC,yF,KI,put⟩:=P'.lI aU hx hn b z;have w:=Ek X (ts.map fun (x:T×Kd)=>x.1);obtain ⟨t',ho⟩:=kz ne2;rw [ho] at w e3;refine wpAny_mono (Em w yF rt.r) (fun _ s' q=>?_) fun _ _ q=>q
 induction q with|mk a h' tk ha sb y'=>?_
 exact ⟨.next,_,au,aj,e3,put a h' tk t' ha sb y',rfl⟩
theorem KJ {β:Type}(o:Option (T×Kd))(g:Str→List T→T→M β):(∃kd ah at',o=some (.vec kd ah at',.bg))∨(match o with|some (.vec k ah at',.bg)=>g k ah at'|_=>stuck)=stuck:=by
 induction o with
 |none=>exact .inr rfl
 |some p=>
  obtain ⟨t,k⟩:=p
  cases t with
  |vec kd ah at'=>induction k with
   |bg=>exact .inl ⟨_,_,_,rfl⟩
   |_=>exact .inr rfl
  |_=>exact .inr rfl
noncomputable def BA (own:List (Str×T×Kd))(x a m:Str)(f:Str→List T→T→M (Out×Ev)):M (Out×Ev):=match own.lookup x with
 |some (.vec k ah at',.bg)=>if a="items"∧m="append"∧ah.length < aq then f k ah at' else stuck
 |_=>stuck
theorem Eo {own:List (Str×T×Kd)}{x a m:Str}{f:Str→List T→T→M (Out×Ev)}{σ:Sg}(ne:BA own x a m f σ≠.stuck):∃k ah at',own.lookup x=some (.vec k ah at',.bg)∧(a="items"∧m="append"∧ah.length < aq)∧BA own x a m f σ=f k ah at' σ:=by
 unfold BA at ne ⊢;rcases KJ (own.lookup x) (fun k ah at'=>if a="items"∧m="append"∧ah.length < aq then f k ah at' else stuck) with ⟨kd,ah,at',hx⟩|q
 ·rw [hx] at ne ⊢;by_cases hm:a="items"∧m="append"∧ah.length < aq
  ·exact ⟨kd,ah,at',rfl,hm,congrFun (if_pos hm) σ⟩
  ·exact absurd (congrFun (if_neg hm) σ) ne
 ·exact absurd (congrFun q σ) ne
theorem H5 {L:Ev}{l:List T}{f:T→Ev}{σ:Sg}(ne:(match l with|[t]=>(pure (Out.next,f t):M (Out×Ev))|_=>stuck) σ≠.stuck):∃u,l=[u]:=by
 cases l with
 |nil=>exact absurd rfl ne
 |cons u r=>induction r with
  |nil=>exact ⟨u,rfl⟩
  |cons=>exact absurd rfl ne
theorem mG.push {k:Str}{ah:List T}{at' u:T}{v w:Value}{as:List Addr}{Q:Shared→Prop}(y:mG c Γ s.heap (ai A) k ah at' v as)(hz:ah.length < aq)(ru:Rep c Γ u w){vb:Addr}(hb:as[2]?=some vb)
  (q:∀h' tk,vb∈as→Heap.SameBut vb s.heap h'→aF c Γ h' (ai A) (.vec k (ah++[u]) at') .bg v as→Q {s with heap:=h',toks:=tk}):wpAny (model prog c.w) A (call (.builtin "list.append") [.ref vb,w]) (fun _ s'=>Q s') E s:=by
 induction y with|mk a d b t ia vs n ne1 ne2 ne3 e i e2 z r1 r2 l1 l2 l3 f1 f2 f3=>?_
 cases Option.some.inj hb;refine wpAny_list_append_plain ⟨n,e2⟩ (fun h' hp sb=>?_) z;refine (hp).elim fun n' hp=>?_
 have i':bx c h' d (.str k t,.ref vb,ia):=rQ.keeps i fun o e=>(sb.2 _ ne3).trans e
 exact q h' s.toks (.tail _ (.tail _ (.head _))) sb (mG.own ⟨a,d,vb,t,ia,vs++[w],n',ne1,ne2,ne3,(sb.2 _ ne2).trans e,i',hp.trans (by rw [List.push_toArray]),by rw [List.length_append,r1.length,bC];exact Nat.le_trans (Nat.succ_le_of_lt hz) (by unfold aq;decide),az.append r1 (az.one ru),r2,l1,l2,l3,f1,f2,f3⟩)
theorem Sd.NB {x a m:Str}{px GD ap p pos:Pos}{as:List Expr}(fa:Facts c)(d1:(x == ("__debug__":Str))=false)(d2:(x == ("__classdict__":Str))=false)(sC:(ap.endLine == p.line)=true)(hl:as.length < 20)(hs:∀e∈as,noStar e=true)(hi:interactive env=false)
  (h:∀old L q,aC prog c A (cg c old (ai A) env L) (zC c) (br G L as) (spliced (backTo q (starEach as env)))):Sd prog c A₀ A env G (.Expr (.Call (.Attribute (.Attribute (.Name x px) a GD) m ap) as [] p) pos):=by
 intro L Γ₀ σ₀ s₀ Γ σ s P ne;obtain ⟨a0,P',le⟩:=P.settle (.Tuple as 0 p)
 obtain ⟨kd,ah,at',hx,⟨rfl,rfl,hz⟩,ev⟩:=Eo (own:=(settle (.Tuple as 0 p) L).own) (x:=x) (a:=a) (m:=m) (f:=fun k ah at'=>br G (settle (.Tuple as 0 p) L) as>>=fun ts=>match ts.map fun (y:T×Kd)=>y.1 with
   |[t]=>pure (Out.next,(settle (.Tuple as 0 p) L).bL x (.vec k (ah++[t]) at'))
   |_=>stuck) ne
 have ev:cn G (.Expr (.Call (.Attribute (.Attribute (.Name x px) "items" GD) "append" ap) as [] p) pos) L σ=_:=ev;rw [ev] at ne ⊢;clear ev;generalize settle (.Tuple as 0 p) L=dI at ne P' hx ⊢;obtain ⟨v,LO,mm,hn,b,y,n0,_⟩:=P'.mut hx
 induction y.o with
 |mk va vd vb t ia vs n ne1 ne2 ne3 e i e2 z r1 r2 l1 l2 l3 f1 f2 f3=>
 have i':=i;obtain ⟨od,ed,ei⟩:=i';have gi:gW c s.heap (.str kd t) (.ref vb) ia (.ref va):=.mk va vd e i;induction ei with|mk sh t1 t2 t3 t4 t5 nn=>?_
 refine wpAny_Expr_any (wpAny_Call_method_late (gV rfl) (tA hs hl) sC rfl (Attribute_any_ (cJ P'.cX.kind hn b d1 d2 (nI fa P'.st fa.JH (.tail _ (.head _)) e ed nG rfl ?_)) (by rw [arm_eval_Attribute,gV rfl]))) hi rfl;refine ⟨_,_,F.plainAttrs_list,F.slot_list_append,F.type_list_append,⟨_,e2,rfl⟩,fun a e'=>by cases e';exact ⟨_,e2,rfl⟩,?_⟩;refine Calls.callWith_builtin (dD hs) (aC.args hs (iG (P'.toks _) ne (h _ _ p) fun ts au aj KL aJ RD aU KN rt NC e3=>?_));obtain ⟨GC,yF,KI,put⟩:=P'.lI aU hx hn b KN;obtain ⟨u,hu⟩:=H5 (L:=dI) NC;have e3:=e3.trans (show _=Res.ok (Out.next,dI.bL x (.vec kd (ah++[u]) at')) au by rw [hu];rfl);have QM:az c aj [u] KL:=hu▸rt.r
 induction QM.gX with
 |mk w ru=>
 have ys:=(y.step KN).shape.det yF.shape;exact mG.push yF.o hz ru (ys▸rfl) fun h' tk hb sb y'=>⟨.next,_,au,aj,e3,put vb h' tk _ hb sb y',rfl⟩
end
section
variable {prog:Program}{c:Cx}{A₀ A:Around}{I:Inv (ai A)}{env:PySem.Env}{L L':Ev}{Γ₀ Γ af aj a0:Gh}{σ₀ σ aa au σ':Sg}{s₀ s s₁ aJ:Shared}{E:Value→Shared→Prop}{G:Calls}{h h':Heap}{k:Kd}
noncomputable def rf (own:List (Str×T×Kd))(x:Str)(f:List (Str×T)→M (Out×Ev)):M (Out×Ev):=match own.lookup x with
 |some (.dict es,_)=>f es
 |_=>stuck
theorem yG {own:List (Str×T×Kd)}{x:Str}{f:List (Str×T)→M (Out×Ev)}{σ:Sg}(ne:rf own x f σ≠.stuck):∃es k,own.lookup x=some (.dict es,k)∧rf own x f σ=f es σ:=by
 unfold rf at ne ⊢
 induction hx:own.lookup x with
 |none=>rw [hx] at ne;exact absurd rfl ne
 |some tk=>
  obtain ⟨t,k⟩:=tk;rw [hx] at ne
  cases t with
  |dict es=>exact ⟨es,k,rfl,rfl⟩
  |_=>exact absurd rfl ne
theorem tB {x:Str}{es:List (Str×T)}{k t:T}{f:Ev→M (Out×Ev)}{σ:Sg}(ne:(eJ L x es k t>>=f) σ≠.stuck):∃key,k=.str key∧es.length < aq∧(eJ L x es k t>>=f) σ=f (L.bL x (.dict (dput es key t))) σ:=by
 cases k with
 |str key=>
  have e:eJ L x es (.str key) t=if es.length < aq then pure (L.bL x (.dict (dput es key t))) else stuck:=rfl
  rw [e] at ne ⊢;by_cases hz:es.length < aq
  ·exact ⟨key,rfl,hz,by rw [if_pos hz];rfl⟩
  ·rw [if_neg hz] at ne;exact absurd rfl ne
 |_=>exact absurd rfl ne
theorem xj {D:Addr}{es:List (Str×T)}{ds:List DictEntry}{n:Nat}{key:Str}{tk:Tok}{t:T}{w:Value}{Q:Unit→Shared→Prop}(hd:s.heap.get? D=some (aB ds n))(zz:ds.length≤sizeLine)(r:aW c Γ es ds)(nd:(es.map (·.1)).Nodup)(QN:Rep c Γ t w)(hz:es.length < aq)
  (q:∀h' tk eN n',Heap.SameBut D s.heap h'→h'.get? D=some (aB eN n')→eN.length≤sizeLine→((dput es key t).map (·.1)).Nodup→aW c Γ (dput es key t) eN→Q () {s with heap:=h',toks:=tk}):wpAny (model prog c.w) A (setItem (.ref D) (.str key tk) w) Q E s:=by
 refine wpAny_setItem_pairs (knd:=strKind prog c.w) (strKind_is prog c.w key tk) (eB (prog:=prog) hd r nd) (fun h' qR sb=>?_) (dE r▸r.length▸zz);obtain ⟨eN,n',q1,q2,q3⟩:=fA qR (cR.put QN (jd r) nd);exact q h' _ eN n' sb q1 (q2.length▸Nat.le_trans iI (Nat.le_trans (Nat.succ_le_of_lt hz) (by rw [bC];unfold aq;decide))) q3 q2
theorem Sd.H6 {x:Str}{px p0 pos:Pos}{v i:Expr}(d1:(x == ("__debug__":Str))=false)(d2:(x == ("__classdict__":Str))=false)(hs:swapsWith v (some (.Subscript (.Name x px) i p0)) pos.line env=pure false)
  (he:bk prog c A env G v) (KO:bk prog c A env G i):Sd prog c A₀ A env G (.Assign [.Subscript (.Name x px) i p0] v pos):=by
 intro L Γ₀ σ₀ s₀ Γ σ s P ne;obtain ⟨a0,P',le⟩:=P.settle (.Tuple [v,i] 0 pos);obtain ⟨es,k,hx,ev⟩:=yG (own:=(settle (.Tuple [v,i] 0 pos) L).own) (x:=x) (f:=fun es=>ag G (settle (.Tuple [v,i] 0 pos) L) v>>=fun t=>Internal.solid t>>=fun t=>ag G (settle (.Tuple [v,i] 0 pos) L) i>>=fun k=>eJ (settle (.Tuple [v,i] 0 pos) L) x es k.1 t.1>>=fun L'=>pure (Out.next,L')) ne;rw [←M.assoc] at ev;have ev:cn G (.Assign [.Subscript (.Name x px) i p0] v pos) L σ=_:=ev;rw [ev] at ne ⊢;clear ev;generalize settle (.Tuple [v,i] 0 pos) L=dI at ne P' hx ⊢;refine wpAny_Assign_Subscript (iG (f:=fun (t:T×Kd)=>ag G dI i>>=fun k=>eJ dI x es k.1 t.1>>=fun L'=>pure (Out.next,L')) P' ne (he _ _).tx fun t aa af w s₁ _ ao y rt ne1 e1=>?_) hs;obtain ⟨vx,as,m,hn,b,y0,n0,_⟩:=ao.mut hx;refine cJ ao.cX.kind hn b d1 d2 (wpAny_mono (iG (f:=fun (k:T×Kd)=>eJ dI x es k.1 t.1>>=fun L'=>pure (Out.next,L')) ao ne1 (KO _ _).kA fun ki au aj u aJ _ aU z ri ne2 e2=>?_) (fun _ _ q=>q) fun _ _ q=>q.cast fun _ _ q=>e1.trans q);obtain ⟨GC,yF,KI,put⟩:=ao.lI aU hx hn b z;obtain ⟨key,tC,hz,e3⟩:=tB ne2
 induction (tC▸RF.rep ri (by rw [tC];rfl):Rep c aj (.str key) u).str_inv with
 |mk ND=>
 obtain ⟨rfl,yd⟩:=yF.Pn;induction yd with|mk D ds n nm ea zz nd rd l1 nf=>?_
 exact xj ea zz rd nd (Rep.mono z.le _ _ rt.r) hz fun h' tk eN n' sb q1 q2 q3 q4=>⟨.next,_,au,aj,e1.trans (e2.trans e3),put D h' _ _ (.head _) sb (k9.own ⟨D,eN,n',nm,q1,q2,q3,q4,l1,nf⟩),rfl⟩
theorem tD {a:Addr}(P:aA c A₀ A env L Γ₀ σ₀ s₀ Γ σ s)(n:¬Loose Γ a):b9 env L.own s.heap a:=by
 obtain ⟨m,ns,_,_,f,o,_⟩:=P.cX.bound
 exact b9.of ns o fun p hp ha=>by
  obtain ⟨v,_,w⟩:=o p hp;exact n (w.iC a ha).l
theorem aA.known {a:Addr}{tk:Nat}(P:aA c A₀ A env L Γ₀ σ₀ s₀ Γ σ s)(n:¬Loose Γ a)(kp:∀b o,b≠a→s.heap.get? b=some o→h'.get? b=some o)(S:St c Γ σ' h')(y:Step (ai A₀) Γ σ s.heap Γ σ' h'):aA c A₀ A env L Γ₀ σ₀ s₀ Γ σ' {s with heap:=h',toks:=tk}:=
 P.chg (X:=(·=a)) (s₁:={s with heap:=h',toks:=tk}) (oj kp) (fun b hb q=>by
  obtain ⟨_,_,_,l⟩:=P.fr.alive hb
  exact n (q▸l)) (fun y ca e q=>by
  obtain ⟨_,l,_⟩:=P.cells y ca e;exact n (q▸l)) (fun b q=>q▸tD P n) ⟨h',tk⟩ S (Step.trans P.fh P.step y)
theorem aA.tE {a:Addr}{v v':aM}{tk:Nat}(P:aA c A₀ A env L Γ₀ σ₀ s₀ Γ σ s)(hs:σ.self=some v)(hm:Γ.moves a)(hr:Γ.row≠some a)(ht:a≠Γ.tab)(sb:Heap.SameBut a s.heap h')(al:∃o,h'.get? a=some o)(ep:v.ep < v'.ep)(so:bT c Γ h' v'):
  aA c A₀ A env L Γ₀ σ₀ s₀ Γ {σ with self:=some v'} {s with heap:=h',toks:=tk}:=by
 have S:=P.st;have kp:∀b o,b≠a→s.heap.get? b=some o→h'.get? b=some o:=fun b o hb e=>(sb.2 b hb).trans e
 have T:fc Γ s.heap h' a:=⟨kp,al⟩;obtain ⟨ma,mi,_⟩:=S.apart a hm;refine P.known (fun l=>l.m hm) kp (S.turn (σ':={σ with self:=some v'}) T ma mi (S.row.imp id fun ns q=>?_) so ?_) (Step.turn T hm (fun w w' e e' q=>?_) fun w e=>?_)
 ·obtain ⟨r,vs,n,a1,a2,a3,a4,a5⟩:=q;exact ⟨r,vs,n,a1,a2,kp _ _ (fun q=>hr (q▸a1)) a3,a4,a5⟩
 ·obtain ⟨m,q,ps,e,r,y⟩:=S.tab;exact ⟨m,q,ps,kp _ _ (fun q=>ht q.symm) e,r,y⟩
 ·induction Option.some.inj (hs.symm.trans e);induction Option.some.inj e';exact absurd q (Nat.ne_of_gt ep)
 ·induction Option.some.inj (hs.symm.trans e);exact ⟨v',rfl,Nat.le_of_lt ep⟩
theorem aA.Ep {a:Addr}{x:Value×Value×Value}{tk:Nat}(P:aA c A₀ A env L Γ₀ σ₀ s₀ Γ σ s)(hi:Γ.gk a=some x)(sb:Heap.SameBut a s.heap h')(so:bx c h' a x):aA c A₀ A env L Γ₀ σ₀ s₀ Γ σ {s with heap:=h',toks:=tk}:=by
 have S:=P.st;have kp:∀b o,b≠a→s.heap.get? b=some o→h'.get? b=some o:=fun b o hb e=>(sb.2 b hb).trans e
 have T:fc Γ s.heap h' a:=⟨kp,so.ex⟩;have L2:∀{b},Γ.moves b→b≠a:=fun e q=>by subst q;obtain ⟨_,i,_⟩:=S.apart _ e;exact bR (i.symm.trans hi)
 have ma:=S.apart2 a x hi;refine P.known (fun l=>by exact bR (l.i.symm.trans hi)) kp ⟨S.base,fun b o e=>kp b o (fun q=>by subst q;exact bR (ma.symm.trans e)) (S.obj b o e),fun d y e=>?_,fun b e=>T.apart (S.apart b e),S.apart2,S.row.imp id fun ns q=>?_,S.self.imp id fun v q=>q.qP fun b o m=>kp b o (L2 m),?_⟩
  ⟨.refl _,fun b o e=>T.alive e,fun b o e _ i _=>kp b o (fun q=>by subst q;exact bR (i.symm.trans hi)) e,fun b o _ e l=>⟨o.slots,kp b o (fun q=>by subst q;exact bR (l.i.symm.trans hi)) e⟩,fun b _ _=>.refl _ b,fun _ e=>.inl e,jG fun b m=>sb.2 b (L2 m),fun v e=>⟨v,e,Nat.le_refl _⟩⟩
 ·by_cases q:d=a
  ·subst q;induction Option.some.inj (hi.symm.trans e);exact so
  ·exact rQ.keeps (S.gk d y e) fun o=>kp d o q
 ·obtain ⟨r,vs,n,a1,a2,a3,a4,a5⟩:=q;exact ⟨r,vs,n,a1,a2,kp _ _ (L2 a2) a3,a4,a5⟩
 ·obtain ⟨m,q,ps,e,r,y⟩:=S.tab;exact ⟨m,q,ps,kp _ _ (L2 m) e,r,y⟩
end
section
variable {prog:Program}{c:Cx}{A₀ A:Around}{I:Inv (ai A)}{env:PySem.Env}{L L':Ev}{Γ₀ Γ af aj a0:Gh}{σ₀ σ aa au σ':Sg}{s₀ s s₁ aJ:Shared}{E:Value→Shared→Prop}{G:Calls}{h h':Heap}{k:Kd}
theorem lJ {x d:Addr}{ik ii ia v:Value}{Q:Unit→Shared→Prop}(X:c.K.In s.heap)(N:d5 c)(hx:s.heap.get? x=some (instObj c.vec d))(hd:bx c s.heap d (ik,ii,ia))
  (q:∀h' tk,bx c h' d (ik,ii,v)→Heap.SameBut d s.heap h'→Q () {s with heap:=h',toks:=tk}):wpAny (model prog c.w) A (setAttr (.ref x) "attrs" v) Q E s:=by
 obtain ⟨o,e,i⟩:=hd;induction i with|mk sh t1 t2 t3 t4 t5 n=>?_
 exact n6 (es:=dP c ik ii ia sh t1 t2 t3 t4 t5) X N.HR (.tail _ (.tail _ (.head _))) hx e rfl (show 5≤1000 by decide) fun h' tk t q1 q2=>q h' tk ⟨_,q1,.mk sh t1 t2 t3 t4 t5 _⟩ q2
theorem vA {x d:Addr}{ik ii ia:Value}{b:Bool}{Q:Unit→Shared→Prop}(X:c.K.In s.heap)(N:d5 c)(hx:s.heap.get? x=some (instObj c.vec d))(hd:bx c s.heap d (ik,ii,ia))
  (q:∀h' tk,bx c h' d (ik,ii,ia)→Heap.SameBut d s.heap h'→Q () {s with heap:=h',toks:=tk}):wpAny (model prog c.w) A (setAttr (.ref x) "shared" (.bool b)) Q E s:=by
 obtain ⟨o,e,i⟩:=hd;induction i with|mk sh t1 t2 t3 t4 t5 n=>?_
 exact n6 (es:=dP c ik ii ia sh t1 t2 t3 t4 t5) X N.HR (.tail _ (.tail _ (.tail _ (.head _)))) hx e rfl (show 5≤1000 by decide) fun h' tk t q1 q2=>q h' tk ⟨_,q1,.mk b t1 t2 t3 t4 t5 _⟩ q2
inductive rg (L:Ev) (x a:Str) (σ:Sg):T×Kd→Res Ev→Prop
 |own (t:T×Kd) (kd:Str) (ah:List T) (C7:T) (ku:Kd) (ho:L.own.lookup x=some (.vec kd ah C7,ku)) (ha:a="attrs"):rg L x a σ t (.ok (L.bL x (.vec kd ah t.1)) σ)
 |none (kt:Kd) (hl:L.loc x=some .self) (v:aM) (hs:σ.self=some v) (ha:a="attrs"):rg L x a σ (.none,kt) (.ok L (bj σ v none))
 |dict (es:List (Str×T)) (hl:L.loc x=some .self) (v:aM) (hs:σ.self=some v) (ha:a="attrs"):rg L x a σ (.dict es,.own) (.ok L (bj σ v (some es)))
 |shared (t:T×Kd) (kd:Str) (ah:List T) (C7:T) (hl:L.loc x=some (.vec kd ah C7)) (ha:a="shared"∧j6 t.1=true):rg L x a σ t (.ok L σ)
 |no (t:T×Kd):rg L x a σ t .stuck
theorem yH (L:Ev)(x a:Str)(t:T×Kd)(σ:Sg)(hl:L.loc x=some .self):rg L x a σ t (match σ.self with
   |some v=>(if a="attrs" then
     (match t with
      |(.none,_)=>.ok L (bj σ v none)
      |(.dict es,.own)=>.ok L (bj σ v (some es))
      |_=>.stuck)
    else .stuck)
   |none=>.stuck):=by
 induction hs:σ.self with
 |none=>exact .no _
 |some v=>
  refine d3 (P:=rg L x a σ t) (fun ha=>?_) (.no _);obtain ⟨t,k⟩:=t
  cases t with
  |none=>exact .none k hl v hs ha
  |dict es=>induction k with
   |own=>exact .dict es hl v hs ha
   |_=>exact .no _
  |_=>exact .no _
theorem Er (L:Ev)(x a:Str)(t:T×Kd)(σ:Sg):rg L x a σ t (eu L x a t σ):=by
 unfold eu
 induction ho:L.own.lookup x with
 |some p=>
  obtain ⟨u,ku⟩:=p
  cases u with
  |vec kd ah C7=>exact d3 (.own t kd ah C7 ku ho) (.no _)
  |_=>exact .no _
 |none=>
  skip
  induction hl:L.loc x with
  |none=>exact .no _
  |some u=>cases u with
   |self=>exact yH L x a t σ hl
   |vec kd ah C7=>exact d3 (.shared t kd ah C7 hl) (.no _)
   |_=>exact .no _
inductive KP (c:Cx) (Γ:Gh) (h:Heap) (fr:List Addr) (kd:Str) (ah:List T) (k:Kd) (as:List Addr):Value→Prop
 |mk (a d:Addr) (t:Tok) (ii ia:Value) (m:d∈as) (e:h.get? a=some (instObj c.vec d)) (i:bx c h d (.str kd t,ii,ia)) (put:∀h' at' H7,Heap.SameBut d h h'→bx c h' d (.str kd t,ii,H7)→Rep c Γ at' H7→aF c Γ h' fr (.vec kd ah at') k (.ref a) as):KP c Γ h fr kd ah k as (.ref a)
theorem aF.inst {v:Value}{as:List Addr}{fr:List Addr}{kd:Str}{ah:List T}{at':T}(y:aF c Γ h fr (.vec kd ah at') k v as):KP c Γ h fr kd ah k as v:=by
 have y':=y;obtain ⟨ps,r,e,_,_⟩:=y';clear e
 cases r with
 |vec=>
  obtain ⟨a,d,t,ii,ia,ne,e,i,r,r',l,l',f,f'⟩:=y.i;exact .mk _ _ t ii ia (.tail _ (.head _)) e i fun h' at' H7 sb i' NF=>r6.own ⟨_,_,t,ii,H7,ne,(sb.2 _ ne).trans e,i',r,NF,l,l',f,f'⟩
 |io=>
  obtain ⟨a,d,b,t,ia,vs,n,ne,ne',ny,e,i,e',z,r,r',l,l',C3,f,f',I8⟩:=y.o;exact .mk _ _ t _ ia (.tail _ (.head _)) e i fun h' at' H7 sb i' NF=>mG.own ⟨_,_,_,t,H7,vs,n,ne,ne',ny,(sb.2 _ ne).trans e,i',(sb.2 _ ny.symm).trans e',z,r,NF,l,l',C3,f,f',I8⟩
theorem sy.turn {a:Addr}{sv Ga:aM}{ia:Value}{tk:Nat}(P:aA c A₀ A env L Γ₀ σ₀ s₀ Γ σ s)(hs:σ.self=some sv){d:Addr}{t:Tok}{ii QO:Value}(eg:Γ.self=some (a,d))(eo:s.heap.get? a=some (instObj c.vec d))(go:Γ.obj a=some (instObj c.vec d))(mv:Γ.moves d)(i:bx c s.heap d (.str sv.kind t,ii,QO))(r:Rep c Γ (.list sv.items) ii)
  (sb:Heap.SameBut d s.heap h') (i':bx c h' d (.str sv.kind t,ii,ia)) (ek:Ga.kind=sv.kind) (ei:Ga.items=sv.items) (ep:sv.ep < Ga.ep) (q:bW c Γ h' d Ga.attrs ia):aA c A₀ A env L Γ₀ σ₀ s₀ Γ {σ with self:=some Ga} {s with heap:=h',toks:=tk}:=
 P.tE hs mv (P.st.Ac i) (P.st.Ad i) sb i'.ex ep ⟨a,d,ii,ia,t,eg,go,mv,ek▸i',ei▸r,q⟩
theorem RV.none_inv {fr:List Addr}{pre:Heap}{kt:Kd}{w:Value}(rv:RV c fr pre Γ σ h (.none,kt) w)(n:kt≠.h):w=.none:=by
 by_cases hv:kt=.val
 ·subst hv;exact Rep.none_inv (show Rep c Γ .none w from rv)
 ·obtain ⟨as,⟨_,q,_⟩,_⟩:=RV.yj rv n hv;cases q
theorem vD {t:T}(h:j6 t=true):∃b,t=.bool b:=by
 cases t with
 |bool b=>exact ⟨b,rfl⟩
 |_=>exact d9 h
noncomputable def ou (a:Str)(m:M (Out×Ev)):M (Out×Ev):=if a="attrs"∨a="shared" then m else stuck
theorem tF {a:Str}{m:M (Out×Ev)}{σ:Sg}(ne:ou a m σ≠.stuck):ou a m σ=m σ:=by
 unfold ou at ne ⊢;by_cases ha:a="attrs"∨a="shared"
 ·rw [if_pos ha]
 ·rw [if_neg ha] at ne;exact absurd rfl ne
theorem vF {x a:Str}{px:Pos}{t:T×Kd}{w:Value}{pre:Heap}{res:Res Ev}{K:Ev→Sg→Prop}{Q:Unit→Shared→Prop}(F:Facts c)(N:d5 c)(d1:(x == ("__debug__":Str))=false)(d2:(x == ("__classdict__":Str))=false)(ao:aA c A₀ A env L Γ₀ σ₀ s₀ Γ σ s)(ws:rg L x a σ t res)(ne:res≠.stuck)(rv:LW c (ai A) pre Γ σ s.heap t w)(rS:∀a,pre.get? a=none→s₀.heap.get? a=none)(NG:Apart env L.own pre s.heap)
  (fin:∀{L':Ev} {σ':Sg} {aj:Gh} {aJ:Shared},res=.ok L' σ'→aA c A₀ A env L' Γ₀ σ₀ s₀ aj σ' aJ→Q () aJ):wpAny (model prog c.w) A (eval (.Name x px) env) (fun o s'=>wpAny (model prog c.w) A (setAttr o a w) Q E s') E s:=by
 obtain ⟨hk,rv⟩:=rv
 induction ws with
 |own t kd ah C7 ku ho ha=>
  subst ha;obtain ⟨QP,_,aj,aU,rt,BB,_⟩:=ao.Bq rv hk rS NG;obtain ⟨vx,as,m,hn,b,y0,n0,put⟩:=aU.mut ho;induction y0.inst with|mk va vd tt ii ia m2 g1 g2 pt=>?_
  exact cJ aU.cX.kind hn b d1 d2 (lJ (rR F aU.st) N g1 g2 fun h' tk q1 q2=>fin rfl (put vd h' tk _ m2 q2 (pt h' _ _ q2 q1 rt)))
 |none kt hl v0 hs ha=>
  subst ha;obtain ⟨k1,_,_,m,e4,e5,e6,_⟩:=ao.cX;obtain ⟨vx,b,rx⟩:=e6 x _ hl;cases RV.none_inv rv hk;obtain ⟨QQ,QR,hg⟩:=(show o7 Γ vx from rx);obtain ⟨va,vd,ii,ia,tt,c1,c2,c3,c4,c5,c6⟩:=ao.st.ez hs;cases hg.symm.trans c1;have gx:=ao.st.obj _ _ c2;exact cJ k1 e4 b d1 d2 (lJ (rR F ao.st) N gx c4 fun h' tk q1 q2=>fin rfl (sy.turn ao hs c1 gx c2 c3 c4 c5 q2 q1 rfl rfl (Nat.lt_succ_self _) rfl))
 |dict es hl v0 hs ha=>
  subst ha;obtain ⟨k1,_,_,m,e4,e5,e6,_⟩:=ao.cX;obtain ⟨vx,b,rx⟩:=e6 x _ hl;induction (show o7 Γ vx from rx) with|mk QQ QR hg=>?_
  obtain ⟨va,vd,ii,ia,tt,c1,c2,c3,c4,c5,c6⟩:=ao.st.ez hs;cases hg.symm.trans c1;have gx:=ao.st.obj _ _ c2;obtain ⟨as,yo,has⟩:=(show cT c (ai A) pre Γ s.heap (.dict es) .own w from rv)
  induction yo.d with
  |mk D ds n nm ea zz nd rd l1 nf=>
  have nD:=has D (.head _);have aU:=ao.Ec ea l1 (rS _ nD) (fun v q=>by cases q) nf (NG D nD);have BB:Γ.Le (Γ.iv D):=Gh.jh;have Pq:D≠_:=fun q=>l1.m (q▸c3)
  exact cJ k1 e4 b d1 d2 (lJ (rR F ao.st) N gx c4 fun h' tk q1 q2=>fin rfl (sy.turn aU hs (BB.self _ c1) gx (BB.obj _ _ c2) (BB.moves _ c3) c4 (Rep.mono BB _ _ c5) q2 q1 rfl rfl (Nat.lt_succ_self _) (uH.mk D ds n nm (.inr rfl) Pq ((q2.2 _ Pq).trans ea) zz nd (aW.mono BB _ _ rd))))
 |shared t kd ah C7 hl ha=>
  obtain ⟨rfl,hb⟩:=ha;obtain ⟨k1,_,_,m,e4,e5,e6,_⟩:=ao.cX;obtain ⟨vx,b,rx⟩:=e6 x _ hl;obtain ⟨QP,_,aj,aU,rt,BB,_⟩:=ao.Bq rv hk rS NG;obtain ⟨bb,QS⟩:=vD hb;cases Rep.bool_inv (QS▸rt:Rep c aj (.bool bb) w);induction (show qC c aj kd (az c aj ah) (Rep c aj C7) vx from Rep.mono BB _ _ rx) with|mk va vd RE tt vs n ia h1 h2 _=>?_
  exact cJ k1 e4 b d1 d2 (vA (rR F aU.st) N (aU.st.obj _ _ h1) (aU.st.gk _ _ h2) fun h' tk q1 q2=>fin rfl (aU.Ep h2 q2 q1))
 |no=>exact absurd rfl ne
theorem Sd.setattr {x a:Str}{px p0 pos:Pos}{v:Expr}(F:Facts c)(N:d5 c)(d1:(x == ("__debug__":Str))=false)(d2:(x == ("__classdict__":Str))=false)(hs:swapsWith v (some (.Attribute (.Name x px) a p0)) pos.line env=pure false)
  (he:bk prog c A env G v):Sd prog c A₀ A env G (.Assign [.Attribute (.Name x px) a p0] v pos):=by
 intro L Γ₀ σ₀ s₀ Γ σ s P ne;obtain ⟨a0,P',le⟩:=P.settle v;have ev:=tF (a:=a) (m:=ag G (settle v L) v>>=fun t=>Internal.solid t>>=fun t=>eu (settle v L) x a t>>=fun L'=>pure (Out.next,L')) ne;have ev:cn G (.Assign [.Attribute (.Name x px) a p0] v pos) L σ=_:=ev.trans (congrFun (M.assoc _ _ _).symm σ);rw [ev] at ne ⊢;clear ev;generalize settle v L=dI at ne P' ⊢;exact plainObj_wpAny_Assign_Attribute (iG (f:=fun t=>eu dI x a t>>=fun L'=>pure (Out.next,L')) P' ne (he _ _).mS fun t aa af w s₁ _ ao y rv ne1 e1=>
  vF (K:=fun _ _=>True) F N d1 d2 ao (Er dI x a t aa) (M.aT ne1) rv (fun a h=>bQ P'.step.alive h) (own_apart P' y) fun e Q=>⟨.next,_,_,_,e1.trans (M.aZ e),Q,rfl⟩) hs
end
section
variable {prog:Program}{c:Cx}{A₀ A:Around}{I:Inv (ai A)}{env:PySem.Env}{L L':Ev}{Γ₀ Γ af aj a0:Gh}{σ₀ σ aa au σ':Sg}{s₀ s s₁ aJ:Shared}{E:Value→Shared→Prop}{G:Calls}{h h':Heap}{k:Kd}
theorem jH.at_ {m:Str→Option Value}{x:Str}{v:Value}(P:aA c A₀ A env L Γ₀ σ₀ s₀ a0 σ s)(b:jH Γ s.heap env m x v):jH a0 s.heap env m x v:=by
 induction b with
 |loc k e=>exact .loc k e
 |cell k ca h1 h2 h3 h4 _=>
  obtain ⟨_,l,_⟩:=P.cells x ca h3;exact .cell k ca h1 h2 h3 h4 l
inductive H8 (σ:Sg):Prop
 |mk (v:aM) (es:List (Str×T)) (hs:σ.self=some v) (hv:v.attrs=some es) (e:bK σ=.ok () σ) (e':gA .self "attrs" σ=.ok (.dict es,.h) σ):H8 σ
theorem KQ {σ:Sg}(ha:bK σ≠.stuck):H8 σ:=by
 induction hs:σ.self with
 |none=>exact absurd (show bK σ=.stuck by unfold bK;rw [hs]) ha
 |some v=>
  induction hv:v.attrs with
  |none=>exact absurd (show bK σ=.stuck by unfold bK;rw [hs];dsimp only;rw [hv]) ha
  |some es=>
   refine ⟨v,es,hs,hv,by unfold bK;rw [hs];dsimp only;rw [hv],?_⟩;unfold gA;rw [hs];dsimp only;rw [if_neg (by decide),if_neg (by decide),if_pos rfl,hv]
theorem ov {vx:Value}{m:Str→Option Value}{x:Str}{px ap:Pos}{Q:Value→Shared→Prop}(F:Facts c)(P:aA c A₀ A env L Γ₀ σ₀ s₀ Γ σ s)(d1:(x == ("__debug__":Str))=false)(d2:(x == ("__classdict__":Str))=false)
  (hn:s.heap.Ns env.locals m) (b:jH Γ s.heap env m x vx) (rx:Rep c Γ .self vx) (ha:H8 σ)
  (q:∀w af s₁ es,aA c A₀ A env L Γ₀ σ₀ s₀ af σ s₁→Γ.Le af→wJ c af σ s₁.heap (.dict es) w→Q w s₁):wpAny (model prog c.w) A (eval (.Attribute (.Name x px) "attrs" ap) env) Q E s:=by
 obtain ⟨v,es,hs,hv,h2,h3⟩:=ha;refine Attribute_any_ (cJ P.cX.kind hn b d1 d2 (wpAny_mono (wW F P.pre rx (h3▸fun q=>nomatch q)) (fun w s₁ y=>?_) (fun _ s' q=>?_))) (by rw [arm_eval_Attribute,gV rfl])
 ·obtain ⟨a,σ',e,af,y1,y2,y3,r⟩:=y;obtain ⟨rfl,rfl⟩:=G1 (h3.symm.trans e);exact q w af s₁ es (P.next y1 y2 y3) y3.le r
 ·induction q with|mk m' σ' e _=>?_
  exact LG (h3.symm.trans e)
inductive Later (c:Cx) (A₀ A:Around) (env:PySem.Env) (L:Ev) (Γ₀:Gh) (σ₀:Sg) (s₀:Shared) (Γ:Gh) (σ:Sg) (s:Shared) (es:List (Str×T)):Value→Prop
 |mk (v:aM) (D:Addr) (ds:List DictEntry) (n:Nat) (hs:σ.self=some v) (hv:v.attrs=some es) (e:s.heap.get? D=some (aB ds n)) (z:ds.length≤sizeLine) (nd:(es.map (·.1)).Nodup) (r:aW c Γ es ds)
   (put:∀h' tk lg eN n',Heap.SameBut D s.heap h'→h'.get? D=some (aB eN n')→eN.length≤sizeLine→(lg.map (·.1)).Nodup→aW c Γ lg eN→aA c A₀ A env L Γ₀ σ₀ s₀ Γ (bj σ v (some lg)) {s with heap:=h',toks:=tk}):Later c A₀ A env L Γ₀ σ₀ s₀ Γ σ s es (.ref D)
theorem wJ.later {es:List (Str×T)}{w:Value}(P:aA c A₀ A env L Γ₀ σ₀ s₀ Γ σ s)(aU:aA c A₀ A env L Γ₀ σ₀ s₀ aj au aJ)(N:wJ c Γ σ s.heap (.dict es) w)(z:Step (ai A) Γ σ s.heap aj au aJ.heap)(ep:au.self.map (·.ep)=σ.self.map (·.ep)):Later c A₀ A env L Γ₀ σ₀ s₀ aj au aJ es w:=by
 obtain ⟨Pr,v,a,d,ik,ii,e0,hs,hv,gs,QT,hq⟩:=N.step P.st aU.st z ep;cases e0;obtain ⟨a',d',RG,H7,t',b1,b2,b3,b4,b5,b6⟩:=aU.st.ez hs;cases Option.some.inj (b1.symm.trans gs);cases b4.inj QT;induction hq with|mk D ds n nm c2 c3 c4 c5 c6 c7=>?_
 refine (aU.st.qV c4).elim fun u1 u2=>?_
 exact .mk v D ds n hs hv c4 c5 c6 c7 fun h' tk lg eN n' sb g1 g2 g3 g4=>
  aU.tE hs c2 u1 u2 sb ⟨_,g1⟩ (v':={v with attrs:=some lg,ep:=v.ep+1}) (Nat.lt_succ_self _) ⟨_,_,_,_,t',b1,b2,b3,rQ.keeps b4 fun o e=>(sb.2 _ fun q=>c3 q.symm).trans e,b5,uH.mk D eN n' nm c2 c3 g1 g2 g3 g4⟩
noncomputable def GF (o:Option T)(a:Str)(m:M (Out×Ev)):M (Out×Ev):=match o with
 |some .self=>if a="attrs" then m else stuck
 |_=>stuck
theorem tG {o:Option T}{a:Str}{m:M (Out×Ev)}{σ:Sg}(ne:GF o a m σ≠.stuck):o=some .self∧a="attrs"∧GF o a m σ=m σ:=by
 induction o with
 |none=>exact absurd rfl ne
 |some t=>cases t with
  |self=>
   by_cases ha:a="attrs"
   ·exact ⟨rfl,ha,congrFun (if_pos ha) σ⟩
   ·exact absurd (congrFun (if_neg ha) σ) ne
  |_=>exact absurd rfl ne
theorem vG {k t:T}{v:aM}{es:List (Str×T)}{f:Ev→M (Out×Ev)}{σ:Sg}(hs:σ.self=some v)(hv:v.attrs=some es)(ne:(eF L k t>>=f) σ≠.stuck):∃key,k=.str key∧es.length < aq∧(eF L k t>>=f) σ=f L (bj σ v (some (dput es key t))):=by
 cases k with
 |str key=>
  have e:eF L (.str key) t σ=if es.length < aq then .ok L (bj σ v (some (dput es key t))) else .stuck:=by unfold eF;rw [hs];dsimp only;rw [hv]
  by_cases hz:es.length < aq
  ·exact ⟨key,rfl,hz,M.aZ (e.trans (if_pos hz))⟩
  ·exact absurd (e.trans (if_neg hz)) (M.aT ne)
 |_=>exact absurd rfl ne
theorem BC {k:T}{v:aM}{es:List (Str×T)}{f:Ev→M (Out×Ev)}{σ:Sg}(hs:σ.self=some v)(hv:v.attrs=some es)(ne:(j7 L k>>=f) σ≠.stuck):∃key,k=.str key∧(es.lookup key).isSome=true∧(j7 L k>>=f) σ=f L (bj σ v (some (cD es key))):=by
 cases k with
 |str key=>
  have e:j7 L (.str key) σ=if (es.lookup key).isSome then .ok L (bj σ v (some (cD es key))) else .stuck:=by unfold j7;rw [hs];dsimp only;rw [hv]
  by_cases hz:(es.lookup key).isSome=true
  ·exact ⟨key,rfl,hz,M.aZ (e.trans (if_pos hz))⟩
  ·exact absurd (e.trans (if_neg hz)) (M.aT ne)
 |_=>exact absurd rfl ne
theorem Sd.KR {x a:Str}{px ap p0 pos:Pos}{v i:Expr}(F:Facts c)(d1:(x == ("__debug__":Str))=false)(d2:(x == ("__classdict__":Str))=false)(hs:swapsWith v (some (.Subscript (.Attribute (.Name x px) a ap) i p0)) pos.line env=pure false)
  (he:bk prog c A env G v) (KO:bk prog c A env G i):Sd prog c A₀ A env G (.Assign [.Subscript (.Attribute (.Name x px) a ap) i p0] v pos):=by
 intro L Γ₀ σ₀ s₀ Γ σ s P ne;obtain ⟨a0,P',le⟩:=P.settle (.Tuple [v,i] 0 pos);obtain ⟨hl,rfl,ev⟩:=tG (o:=L.loc x) (a:=a) (m:=ag G (settle (.Tuple [v,i] 0 pos) L) v>>=fun t=>Internal.solid t>>=fun t=>bK>>=fun _=>ba .h (ag G (settle (.Tuple [v,i] 0 pos) L) i)>>=fun k=>eF (settle (.Tuple [v,i] 0 pos) L) k.1 t.1>>=fun L'=>pure (Out.next,L')) ne;have ev:cn G (.Assign [.Subscript (.Attribute (.Name x px) "attrs" ap) i p0] v pos) L σ=_:=ev.trans (congrFun (M.assoc _ _ _).symm σ);rw [ev] at ne ⊢;clear ev;obtain ⟨_,_,_,m,e4,e5,e6,_⟩:=P.cX;obtain ⟨vx,b,rx⟩:=e6 x _ hl;have QU:Loose a0 env.locals:=by obtain ⟨_,_,q,_⟩:=P'.cX.bound;exact q
 generalize settle (.Tuple [v,i] 0 pos) L=dI at ne P' ⊢;refine wpAny_Assign_Subscript (iG (f:=fun (t:T×Kd)=>bK>>=fun _=>ba .h (ag G dI i)>>=fun k=>eF dI k.1 t.1>>=fun L'=>pure (Out.next,L')) P' ne (he _ _).tx fun t aa af w s₁ _ ao y rt ne1 e1=>?_) hs;have ha:=KQ (M.aT ne1);refine ov F ao d1 d2 (y.ns QU e4).1 ((b.at_ P').step y) (Rep.mono (le.trans y.le) _ _ rx) ha fun hw aj aJ es aU BB N=>?_
 obtain ⟨_,_,_,_,eA,_⟩:=ha;have e2:=M.aZ (f:=fun _=>ba .h (ag G dI i)>>=fun k=>eF dI k.1 t.1>>=fun L'=>pure (Out.next,L')) eA;refine wpAny_mono (iG (f:=fun (k:T×Kd)=>eF dI k.1 t.1>>=fun L'=>pure (Out.next,L')) aU (fun q=>ne1 (e2.trans q)) ((KO _ _).kA.ba qN) fun ki d0 cW u jK e3 jL z ri ne3 NH=>?_) (fun _ _ q=>q) fun _ _ q=>q.cast fun _ _ q=>e1.trans (e2.trans q)
 induction N.later aU jL z (iE e3 rfl) with|mk v3 D ds n NI NJ g1 g2 g3 g4 put=>?_
 obtain ⟨key,tC,hz,e5⟩:=vG NI NJ ne3
 induction (tC▸RF.rep ri (by rw [tC];rfl):Rep c cW (.str key) u).str_inv with
 |mk ND=>
 exact xj g1 g2 g4 g3 (Rep.mono (BB.trans z.le) _ _ rt.r) hz fun h' tk eN n' sb q1 q2 q3 q4=>⟨.next,_,_,cW,e1.trans (e2.trans (NH.trans e5)),put h' _ _ eN n' sb q1 q2 q3 q4,rfl⟩
theorem Sd.KS {x a:Str}{px ap p0 pos:Pos}{i:Expr}(fa:Facts c)(d1:(x == ("__debug__":Str))=false)(d2:(x == ("__classdict__":Str))=false)
  (KO:bk prog c A env G i):Sd prog c A₀ A env G (.Delete [.Subscript (.Attribute (.Name x px) a ap) i p0] pos):=by
 intro L Γ₀ σ₀ s₀ Γ σ s P ne;obtain ⟨a0,P',le⟩:=P.settle i;obtain ⟨hl,rfl,ev⟩:=tG (o:=L.loc x) (a:=a) (m:=bK>>=fun _=>ba .h (ag G (settle i L) i)>>=fun k=>j7 (settle i L) k.1>>=fun L'=>pure (Out.next,L')) ne;have ev:cn G (.Delete [.Subscript (.Attribute (.Name x px) "attrs" ap) i p0] pos) L σ=_:=ev;rw [ev] at ne ⊢;clear ev;obtain ⟨_,_,_,m,e4,e5,e6,_⟩:=P.cX;obtain ⟨vx,b,rx⟩:=e6 x _ hl;generalize settle i L=dI at ne P' ⊢;have ha:=KQ (M.aT ne);refine wpAny_Delete (wpAny_deleteEach_cons (wpAny_delete_Subscript (ov fa P' d1 d2 e4 (b.at_ P') (Rep.mono le _ _ rx) ha fun hw aj aJ es aU BB N=>?_)));obtain ⟨_,_,_,_,eA,_⟩:=ha;have e2:=M.aZ (f:=fun _=>ba .h (ag G dI i)>>=fun k=>j7 dI k.1>>=fun L'=>pure (Out.next,L')) eA;refine wpAny_mono (iG (f:=fun (k:T×Kd)=>j7 dI k.1>>=fun L'=>pure (Out.next,L')) aU (fun q=>ne (e2.trans q)) ((KO _ _).kA.ba qN) fun ki d0 cW u jK e3 jL z ri ne3 NH=>?_) (fun _ _ q=>q) fun _ _ q=>q.cast fun _ _ q=>e2.trans q
 induction N.later aU jL z (iE e3 rfl) with|mk v3 D ds n NI NJ g1 g2 g3 g4 put=>?_
 obtain ⟨key,tC,hz,e5⟩:=BC NI NJ ne3
 induction (tC▸RF.rep ri (by rw [tC];rfl):Rep c cW (.str key) u).str_inv with
 |mk ND=>
 have HJ:=jd g4;refine wpAny_delItem_slot (T:="dict") ⟨_,g1,rfl⟩ (by decide) F.slot_dict_delitem (call_meetsIn F.slot_dict_delitem ⟨_,g1,rfl⟩ F.entry_dict_delitem (F.args_dict_delitem_2 _ _) (meets_dict_delitem_pairs (strKind prog c.w) D (strKind_is prog c.w key ND)) ⟨_,eB (prog:=prog) g1 g4 g3,dE g4▸g4.length▸g2,(lH HJ).trans hz,fun h' qR sb=>?_⟩);obtain ⟨eN,n',q1,q2,q3⟩:=fA qR (cR.del HJ g3);exact wpAny_deleteEach_nil ⟨.next,_,_,cW,e2.trans (NH.trans e5),put h' _ _ eN n' sb q1 (q2.length▸Nat.le_trans iK (g4.length▸g2)) q3 q2,rfl⟩
end
noncomputable def kH (l:List Stmt):List Str:=l.filterMap fun s=>match s with
 |.FunctionDef m ..=>some m
 |_=>none
noncomputable def defNames:List Str:=kH PySem.Challenge.pw_nz0494_01.main.body
noncomputable def lK:List Str:=["divmod","sorted"]
noncomputable def pureE:Expr→Bool
 |.Name ..=>true
 |.Constant ..=>true
 |.BinOp l _ r _=>pureE l&&pureE r
 |.Attribute o _ _=>pureE o
 |_=>false
noncomputable def GG (g:Str→Bool)(e:Expr):Bool:=match nameOf e with
 |some n=>g n&&(n == "Vector"||n == "str")
 |none=>false
noncomputable def tH (g:Str→Bool):List Expr→Bool
 |_::e::r=>r.isEmpty&&GG g e
 |_=>false
noncomputable def vH (g:Str→Bool)(fn:Str)(as:List Expr):Bool:=
 if fn="len" then as.length == 1
 else if fn="isinstance" then tH g as
 else if fn="Null" then as.length == 0
 else if fn="Vector" then as.length == 2
 else if fn∈builtins then true
 else if fn∈defNames then true
 else decide (fn∈lK)&&as.all pureE
noncomputable def vI:Expr→Bool
 |.Set ..=>false
 |_=>true
noncomputable def isNeg:UnaryOp→Bool
 |.USub=>true
 |_=>false
noncomputable def GH:UnaryOp→Bool
 |.Not=>true
 |_=>false
noncomputable def tI:List CmpOp→List Expr→Bool
 |op::q,r::t=>(q.isEmpty&&t.isEmpty)&&!behindInMarks op r
 |_,_=>false
noncomputable def vK (f:Str→Bool)(sc:Scope)(t:Expr):Bool:=match nameOf t with
 |some x=>J0 f sc x
 |none=>false
noncomputable def BD (ks:List (Option Expr))(n:Nat):Bool:=match ks with
 |[]=>n == 0
 |k::r=>(r.isEmpty&&k.isSome)&&n == 1
noncomputable def NK (g:Str→Bool)(as:List Expr)(p:Pos)(ks:List Keyword)(we Pt:Bool):Expr→Bool
 |.Attribute _ _ ap=>(ks.isEmpty&&ap.endLine == p.line)&&(decide (as.length < 20)&&(Pt&&we))
 |.Name fn _=>(ks.isEmpty&&lD as)&&(g fn&&(!(fn == "__debug__")&&(vH g fn as&&Pt)))
 |_=>false
mutual
noncomputable def jt (g f:Str→Bool):Expr→Bool
 |.Name x _=>ll g x
 |.Constant _ _ _=>true
 |.BinOp l _ r _=>jt g f l&&jt g f r
 |.UnaryOp op x _=>isNeg op&&jt g f x
 |.IfExp t b o _=>Es g f t&&(jt g f b&&jt g f o)
 |.Compare l ops rs _=>tI ops rs&&(jt g f l&&ju g f rs)
 |.Call fn as ks p=>NK g as p ks (jt g f fn) (ju g f as) fn
 |.Attribute o _ _=>sx o&&jt g f o
 |.Subscript v i _=>jt g f v&&L3 g f i (jt g f i)
 |.List es _=>decide (es.length≤1000)&&ju g f es
 |.Tuple es _ _=>decide (es.length≤1000)&&ju g f es
 |.Dict ks vs _=>BD ks vs.length&&(H9 g f ks&&ju g f vs)
 |.ListComp elt gs sc _=>Ia g f sc gs&&jt (aP sc .globalImplicit) (aP sc .free) elt
 |.DictComp k v gs sc _=>Ia g f sc gs&&(jt (aP sc .globalImplicit) (aP sc .free) k&&jt (aP sc .globalImplicit) (aP sc .free) v)
 |.JoinedStr es _=>decide (2≤es.length)&&ju g f es
 |.FormattedValue v n o _=>(decide (n=-1)&&o.isNone)&&jt g f v
 |_=>false
noncomputable def L3 (g f:Str→Bool):Expr→Bool→Bool
 |.Slice lo hi o _,_=>o.isNone&&(Et g f lo&&Et g f hi)
 |_,w=>w
noncomputable def Es (g f:Str→Bool):Expr→Bool
 |.UnaryOp op x _=>GH op&&Es g f x
 |.BoolOp _ vs _=>Eu g f vs
 |.Compare l ops rs _=>tI ops rs&&(jt g f l&&ju g f rs)
 |.Name x _=>ll g x
 |.Constant _ _ _=>true
 |.Call fn as ks p=>NK g as p ks (jt g f fn) (ju g f as) fn
 |.Attribute o _ _=>sx o&&jt g f o
 |.Subscript v i _=>jt g f v&&L3 g f i (jt g f i)
 |_=>false
noncomputable def Eu (g f:Str→Bool):List Expr→Bool
 |[]=>true
 |e::r=>Es g f e&&Eu g f r
noncomputable def ju (g f:Str→Bool):List Expr→Bool
 |[]=>true
 |e::r=>(noStar e&&jt g f e)&&ju g f r
noncomputable def Et (g f:Str→Bool):Option Expr→Bool
 |none=>true
 |some e=>jt g f e
noncomputable def H9 (g f:Str→Bool):List (Option Expr)→Bool
 |[]=>true
 |o::r=>Et g f o&&H9 g f r
noncomputable def Pu (g f:Str→Bool)(sc:Scope):Comprehension→Bool
 |⟨t,it,ifs,a⟩=>(decide (a=0)&&vK f sc t)&&(vI it&&(jt g f it&&Eu (aP sc .globalImplicit) (aP sc .free) ifs))
noncomputable def Ia (g f:Str→Bool)(sc:Scope):List Comprehension→Bool
 |[]=>false
 |x::r=>r.isEmpty&&Pu g f sc x
end
theorem pY {e:Expr}(h:vI e=true)(env:PySem.Env)(v:Value):foldedSetIterable e env v=pure v:=by
 cases e<;>first|rfl|exact d9 h
def ft (n:Nat)(A:Around):Prop:=A.depth+n≤900∧A.units+3 * n≤9000
theorem ft.deeper {n:Nat}{A:Around}{e:PySem.Env}(r:ft (n+1) A):ft n (A.deeper e):=by
 refine (r).elim fun r1 r2=>?_
 exact ⟨Nat.le_trans (Nat.le_of_eq (Nat.add_right_comm ..)) r1,Nat.le_trans (Nat.le_of_eq (Nat.add_right_comm ..)) r2⟩
theorem ft.mono {n m:Nat}{A:Around}(r:ft n A)(h:m≤n):ft m A:=⟨Nat.le_trans (Nat.add_le_add_left h _) r.1,Nat.le_trans (Nat.add_le_add_left (Nat.mul_le_mul_left 3 h) _) r.2⟩
structure Ctx (prog:Program) (c:Cx) (d:Nat) (G:Calls):Prop where
 F:Facts c
 N:d5 c
 defs:∀fn∈defNames,∃fa,c.mg fn=some (.ref fa)∧keepIn c.K (.ref fa)=true
 calls:∀A,ft (4 * d) A→M6 prog c A G
 dead:∀fn∈lK,∀ts,G fn ts=stuck
 exc:dt c
 get:jR c
 lam:iJ c
 kept:∃fk,oh c fk
theorem vL:∀fn∈defNames,fn∉builtins∧fn≠"isinstance"∧¬(fn="Null"∨fn="Vector"):=by
 decide +kernel
def iw {α:Type}(m:M α):Prop:=∀σ x σ',m σ≠.ct x σ'
section
variable {α β:Type}
theorem iw.bind {m:M α}{f:α→M β}(h:iw m)(k:∀a,iw (f a)):iw (m>>=f):=by
 intro σ x σ' q;have q:M.bind m f σ=.ct x σ':=q;unfold M.bind at q
 induction e:m σ with
 |stuck=>rw [e] at q;exact Mo q
 |ct y s=>exact h _ _ _ e
 |ok a s=>rw [e] at q;exact k a _ _ _ q
theorem iw.pure {a:α}:iw (pure a:M α):=fun _ _ _ q=>by exact LG q
theorem iw.stuck:iw (stuck:M α):=fun _ _ _ q=>by exact Mo q
theorem iw.ay {o:Option α}:iw (ay o):=by induction o;exact iw.stuck;exact iw.pure
theorem iw.attr {v:T}{a:Str}:iw (gA v a):=by
 intro σ x σ' q;have w:=Aw v a σ;generalize gA v a σ=o at w q;induction w<;>first|exact LG q|exact Mo q
theorem iw.solid {t:T×Kd}:iw (Internal.solid t):=by
 unfold Internal.solid;split
 ·exact iw.stuck
 ·exact iw.pure
end
theorem kI {G:Calls}{L:Ev}(e:Expr):pureE e=true→iw (ag G L e):=by
 intro h
 cases e with
 |Name x p=>exact iw.bind iw.ay fun _=>iw.pure
 |Constant x k p=>exact iw.bind iw.ay fun _=>iw.pure
 |BinOp l op r p=>exact iw.bind (kI l (band h).1) fun _=>iw.bind (kI r (band h).2) fun _=>iw.ay
 |Attribute o a p=>exact iw.bind (kI o h) fun _=>iw.attr
 |_=>exact d9 h
termination_by structural e
theorem pZ {G:Calls}{L:Ev}:∀(es:List Expr),es.all pureE=true→iw (br G L es)
 |[],_=>iw.pure
 |e::es,h=>iw.bind (kI e (band h).1) fun _=>iw.bind iw.solid fun _=>iw.bind (pZ es (band h).2) fun _=>iw.pure
section
variable {prog:Program}{c:Cx}{d:Nat}{G:Calls}{A:Around}{env:PySem.Env}{g f:Str→Bool}
theorem yI {e:Expr}(h:jt g f e=true):∀x p,e=.Name x p→ll g x=true:=by
 rintro x p rfl;exact h
theorem KU {α:Type}{l:List α}(h:(l.length == 1)=true):∃a,l=[a]:=List.length_eq_one_iff.mp (eq_of_beq h)
theorem nil_of {α:Type}{l:List α}(h:l.isEmpty=true):l=[]:=List.isEmpty_iff.mp h
theorem c9 {e:Expr}{x:Str}(h:nameOf e=some x):∃p,e=.Name x p:=by
 cases e<;>first|(exact bR h;done)|(induction Option.some.inj h;exact ⟨_,rfl⟩)
theorem yJ {as:List Expr}(h:tH g as=true):∃e n p,as=[e,.Name n p]∧g n=true∧(n="Vector"∨n="str"):=by
 rcases as with _|⟨e,_|⟨b,r⟩⟩
 ·cases h
 ·exact d9 h
 ·obtain ⟨h1,h2⟩:=band h;cases nil_of h1;unfold GG at h2
  induction hb:nameOf b with
  |none=>rw [hb] at h2;exact d9 h2
  |some n=>
   rw [hb] at h2;obtain ⟨p,rfl⟩:=c9 hb;obtain ⟨h3,h4⟩:=band h2;exact ⟨e,n,p,rfl,h3,(Bool.or_eq_true_iff.mp h4).imp eq_of_beq eq_of_beq⟩
theorem NL {as:List Expr}(h:(as.length == 2)=true):∃a b,as=[a,b]:=by
 rcases as with _|⟨a,_|⟨b,_|⟨_,_⟩⟩⟩<;>first|exact ⟨_,_,rfl⟩|cases h
structure Row (prog:Program) (c:Cx) (A:Around) (env:PySem.Env) (G:Calls) (g:Str→Bool) (es:List Expr):Prop where
 s:∀e∈es,noStar e=true
 e:∀e∈es,bk prog c A env G e
 n:∀e∈es,∀x p,e=.Name x p→ll g x=true
theorem Row.row {es:List Expr}(R:Row prog c A env G g es)(old:Heap)(L:Ev)(p:Pos):aC prog c A (cg c old (ai A) env L) (zC c) (br G L es) (spliced (backTo p (starEach es env))):=aC.row R.s fun e he=>R.e e he old L
theorem Row.peek {es:List Expr}(R:Row prog c A env G g es)(F:Facts c)(S:bz g f env){e:Expr}(he:e∈es)(old:Heap)(L:Ev):aC prog c A (cg c old (ai A) env L) (RL c) (gC L e (ag G L e)) (eval e env):=
 aC.peek F S.glob (R.n e he) (R.e e he old L)
theorem Ew {fn:Str}(h:fn∈builtins):∃fv,(fn,fv)∈bF:=by
 have:builtins.all (fun x=>(bF.lookup x).isSome)=true:=by decide +kernel
 obtain ⟨fv,e⟩:=Option.isSome_iff_exists.mp (List.all_eq_true.mp this fn h);exact ⟨fv,lookup_mem e⟩
theorem Ex {fn:Str}{np pos:Pos}{as:List Expr}(K:Ctx prog c d G)(RA:ft (4 * d+1) A)(S:bz g f env)
  (h1:lD as=true) (h2:g fn=true) (h3:(fn == ("__debug__":Str))=false) (h4:vH g fn as=true) (R:Row prog c A env G g as):bk prog c A env G (.Call (.Name fn np) as [] pos):=by
 intro old L;have hk:=S.glob fn h2;have room:A.depth+1 < recursionLimit:=Nat.lt_of_le_of_lt (Nat.le_trans (Nat.add_le_add_left (Nat.le_add_left 1 _) _) RA.1) (by decide);unfold vH at h4;by_cases c1:fn="len"
 ·subst c1;obtain ⟨e,rfl⟩:=KU h4;exact aC.A8 K.F hk (R.s e (.head _)) h1 (R.peek K.F S (.head _) old L)
 rw [if_neg c1] at h4;by_cases c2:fn="isinstance"
 ·subst c2;obtain ⟨e,n,p,rfl,g1,g2⟩:=yJ h4;rcases g2 with rfl|rfl
  ·exact aC.call_isinstance K.F hk (R.s e (.head _)) (R.peek K.F S (.head _) old L) (dR K.F (S.glob _ g1) (by decide) K.F.JI) .vec
  ·exact aC.call_isinstance K.F hk (R.s e (.head _)) (R.peek K.F S (.head _) old L) (gZ K.F (S.glob _ g1) (by decide) (.tail _ (.head _))) .str
 rw [if_neg c2] at h4;by_cases c3:fn="Null"
 ·subst c3
  induction as with
  |nil=>exact aC.yy K.F K.N hk room
  |cons _ _=>exact d9 h4
 rw [if_neg c3] at h4;by_cases c4:fn="Vector"
 ·subst c4;obtain ⟨e1,e2,rfl⟩:=NL h4;exact aC.Be K.F K.N hk room (R.s e1 (.head _)) (R.s e2 (.tail _ (.head _))) (R.e e1 (.head _) old L) (R.e e2 (.tail _ (.head _)) old L)
 rw [if_neg c4] at h4;by_cases c5:fn∈builtins
 ·refine (Ew c5).elim fun fv hm=>?_
  exact aC.qZ K.F hm hk c5 c1 R.s h1 (R.row old L)
 rw [if_neg c5] at h4;by_cases c6:fn∈defNames
 ·obtain ⟨fa,m1,m2⟩:=K.defs fn c6;obtain ⟨a1,a2,a3⟩:=vL fn c6;exact aC.A9 K.F (K.calls A (RA.mono (Nat.le_succ _))) hk h3 m1 m2 a1 a2 a3 R.s h1 (R.row old L)
 rw [if_neg c6] at h4;obtain ⟨h5,h6⟩:=band h4;intro Γ σ s P ne;refine absurd ?_ ne;rw [dH h1,dq c1 c2];have hp:=pZ (G:=G) (L:=L) as h6 σ;show M.bind _ _ σ=_;unfold M.bind
 induction e1:br G L as σ with
 |stuck=>rfl
 |ct m' s'=>exact absurd e1 (hp m' s')
 |ok a s'=>
  show l8 G fn a s'=_;unfold l8;rw [if_neg (fun q=>q.elim c3 c4),if_neg c5,K.dead fn (of_decide_eq_true h5)];rfl
def Parts (prog:Program)(c:Cx)(A:Around)(env:PySem.Env)(G:Calls)(g f:Str→Bool):Expr→Prop
 |.Attribute o _ _=>jt g f o=true→bk prog c A env G o
 |.Slice lo hi _ _=>(Et g f lo=true→∀e,lo=some e→bk prog c A env G e)∧(Et g f hi=true→∀e,hi=some e→bk prog c A env G e)
 |_=>True
structure KV (prog:Program) (c:Cx) (A:Around) (env:PySem.Env) (G:Calls) (g f:Str→Bool) (e:Expr):Prop where
 ev:jt g f e=true→bk prog c A env G e
 ts:Es g f e=true→iF prog c A env G e
 pt:Parts prog c A env G g f e
def NM (prog:Program)(c:Cx)(d:Nat)(G:Calls)(e:Expr):Prop:=∀(A:Around) (env:PySem.Env) (g f:Str→Bool),ft (4 * d+1) A→bz g f env→KV prog c A env G g f e
theorem Ib {ops:List CmpOp}{rs:List Expr}(h:tI ops rs=true):∃op r,ops=[op]∧rs=[r]∧behindInMarks op r=false:=by
 cases ops with
 |nil=>exact d9 h
 |cons op q=>cases rs with
  |nil=>exact d9 h
  |cons r t=>
   obtain ⟨h1,h2⟩:=band h;obtain ⟨h3,h4⟩:=band h1;cases nil_of h3;cases nil_of h4;exact ⟨op,r,rfl,rfl,kl h2⟩
theorem Ey {sc:Scope}{t:Expr}(h:vK f sc t=true):∃x p,t=.Name x p∧sS f sc x:=by
 unfold vK at h
 induction e:nameOf t with
 |none=>rw [e] at h;exact d9 h
 |some x=>rw [e] at h;obtain ⟨p,rfl⟩:=c9 e;exact ⟨x,p,rfl,DU h⟩
theorem Ic {op:UnaryOp}(h:isNeg op=true):op=.USub:=by induction op<;>first|rfl|exact d9 h
theorem not_of {op:UnaryOp}(h:GH op=true):op=.Not:=by induction op<;>first|rfl|exact d9 h
theorem Ie {i:Expr}{w:Bool}(h:L3 g f i w=true):(kB i=true∧w=true)∨∃lo hi p,i=.Slice lo hi none p∧Et g f lo=true∧Et g f hi=true:=by
 cases i<;>first
  |exact .inl ⟨rfl,h⟩
  |(refine (band h).elim fun h1 h2=>?_;exact .inr ⟨_,_,_,by rw [Option.isNone_iff_eq_none.mp h1],band h2⟩)
theorem tJ (RA:ft (4 * d+1) A):A.units+50 < cLine:=Nat.lt_of_le_of_lt (Nat.add_le_add_right (Nat.le_trans (Nat.le_add_right ..) RA.2) 50) (by decide)
inductive BE (prog:Program) (c:Cx) (A:Around) (env:PySem.Env) (G:Calls) (f:Str→Bool) (sc:Scope):List Comprehension→Prop
 |mk (x:Str) (p:Pos) (it:Expr) (ifs:List Expr) (ok:sS f sc x) (hf:∀v,foldedSetIterable it env v=pure v) (hi:bk prog c A env G it)
   (ht:∀cl C,(bz (aP sc .globalImplicit) (aP sc .free) (compEnvC sc cl C env))→∀e∈ifs,iF prog c A (compEnvC sc cl C env) G e):BE prog c A env G f sc [⟨.Name x p,it,ifs,0⟩]
def NN (prog:Program)(c:Cx)(d:Nat)(G:Calls)(gs:List Comprehension):Prop:=∀(A:Around) (env:PySem.Env) (g f:Str→Bool) (sc:Scope),ft (4 * d+1) A→bz g f env→Ia g f sc gs=true→BE prog c A env G f sc gs
def Ig (prog:Program)(c:Cx)(d:Nat)(G:Calls)(es:List Expr):Prop:=∀(A:Around) (env:PySem.Env) (g f:Str→Bool),ft (4 * d+1) A→bz g f env→ju g f es=true→Row prog c A env G g es
def NO (prog:Program)(c:Cx)(d:Nat)(G:Calls)(es:List Expr):Prop:=∀(A:Around) (env:PySem.Env) (g f:Str→Bool),ft (4 * d+1) A→bz g f env→Eu g f es=true→∀e∈es,iF prog c A env G e
def Pw (prog:Program)(c:Cx)(d:Nat)(G:Calls)(o:Option Expr):Prop:=∀(A:Around) (env:PySem.Env) (g f:Str→Bool),ft (4 * d+1) A→bz g f env→Et g f o=true→∀e,o=some e→bk prog c A env G e
def NP (prog:Program)(c:Cx)(d:Nat)(G:Calls)(os:List (Option Expr)):Prop:=∀o∈os,Pw prog c d G o
theorem Ez (K:Ctx prog c d G)(RA:ft (4 * d+1) A)(S:bz g f env){fn:Expr}{as:List Expr}{ks:List Keyword}{p:Pos}(hw:KV prog c A env G g f fn)
  (hs:ju g f as=true→Row prog c A env G g as) (h:NK g as p ks (jt g f fn) (ju g f as) fn=true):bk prog c A env G (.Call fn as ks p):=by
 cases fn with
 |Attribute o a ap=>
  obtain ⟨h1,h2⟩:=band h;obtain ⟨h3,h4⟩:=band h1;obtain ⟨h5,h6⟩:=band h2;refine (band h6).elim fun h7 h8=>?_
  cases nil_of h3;exact fun old L=>aC.xW (band h8).1 h4 (of_decide_eq_true h5) (hs h7).s (hw.pt (band h8).2 old L) ((hs h7).row old L)
 |Name x q=>
  obtain ⟨h1,h2⟩:=band h;refine (band h1).elim fun h3 h4=>?_
  refine (band h2).elim fun h5 h6=>?_
  refine (band h6).elim fun h7 h8=>?_
  refine (band h8).elim fun h9 MX=>?_
  cases nil_of h3;exact Ex K RA S h4 h5 (kl h7) h9 (hs MX)
 |_=>exact d9 h
theorem Ih {v i:Expr}{p:Pos}(hv:bk prog c A env G v)(hi:KV prog c A env G g f i)(h:L3 g f i (jt g f i)=true):bk prog c A env G (.Subscript v i p):=by
 intro old L;rcases Ie h with ⟨h1,h2⟩|⟨lo,RH,q,rfl,h1,h2⟩
 ·exact aC.sub h1 (hv old L) (hi.ev h2 old L)
 ·exact aC.slice (hv old L) (aC.bound fun e he=>hi.pt.1 h1 e he old L) (aC.bound fun e he=>hi.pt.2 h2 e he old L)
theorem Ii (RA:ft (4 * d+1) A)(K:Ctx prog c d G)(S:bz g f env){l:Expr}{ops:List CmpOp}{rs:List Expr}{p:Pos}(hl:bk prog c A env G l)(hr:Row prog c A env G g rs)(h:tI ops rs=true):
  bk prog c A env G (.Compare l ops rs p)∧iF prog c A env G (.Compare l ops rs p):=by
 obtain ⟨op,r,rfl,rfl,hm⟩:=Ib h;exact ⟨fun old L=>aC.compare (tJ RA) hm (hl old L) (aC.right (hr.e r (.head _) old L) (hr.peek K.F S (.head _) old L)),fun old L=>aC.Am (tJ RA) hm (hl old L) (aC.right (hr.e r (.head _) old L) (hr.peek K.F S (.head _) old L))⟩
theorem iN {e:Expr}(h:jt g f e=true→bk prog c A env G e)(pt:Parts prog c A env G g f e)(ht:Es g f e=jt g f e)(hp:lu e=true):KV prog c A env G g f e:=
 ⟨h,fun q old L=>aC.uO hp (h (ht.symm.trans q) old L),pt⟩
theorem fu {e:Expr}(h:jt g f e=true→bk prog c A env G e)(pt:Parts prog c A env G g f e)(ht:Es g f e=false):KV prog c A env G g f e:=⟨h,fun q=>(by rw [ht] at q;cases q),pt⟩
theorem EA (K:Ctx prog c d G){ks:List (Option Expr)}{vs:List Expr}{p:Pos}(hk:∀o∈ks,Et g f o=true→∀e,o=some e→bk prog c A env G e)(hv:Row prog c A env G g vs)(ho:H9 g f ks=true)(h:BD ks vs.length=true):bk prog c A env G (.Dict ks vs p):=by
 cases ks with
 |nil=>
  cases List.length_eq_zero_iff.mp (eq_of_beq h);exact fun old L=>aC.Kc K.F
 |cons k r=>
  refine (band h).elim fun h1 h2=>?_
  refine (band h1).elim fun h3 h4=>?_
  cases nil_of h3;obtain ⟨v,rfl⟩:=KU h2;obtain ⟨x,rfl⟩:=Option.isSome_iff_exists.mp h4;exact fun old L=>aC.Ke K.F (hk _ (.head _) (band ho).1 x rfl old L) (hv.e v (.head _) old L)
theorem BF (S:bz g f env){elt:Expr}{gs:List Comprehension}{sc:Scope}{p:Pos}(hg:BE prog c A env G f sc gs)(he:∀eM,bz (aP sc .globalImplicit) (aP sc .free) eM→bk prog c A eM G elt):bk prog c A env G (.ListComp elt gs sc p):=by
 cases hg with
 |mk x q it ifs ok hf hi ht=>exact aC.AW S ok hi ht (fun cl C=>he _) hf
theorem BG (K:Ctx prog c d G)(S:bz g f env){k v:Expr}{gs:List Comprehension}{sc:Scope}{p:Pos}(hg:BE prog c A env G f sc gs)(hk:∀eM,bz (aP sc .globalImplicit) (aP sc .free) eM→bk prog c A eM G k)
  (he:∀eM,bz (aP sc .globalImplicit) (aP sc .free) eM→bk prog c A eM G v):bk prog c A env G (.DictComp k v gs sc p):=by
 cases hg with
 |mk x q it ifs ok hf hi ht=>exact aC.AY K.F S ok hi ht (fun cl C=>hk _) (fun cl C=>he _) hf
theorem Ij {v:Expr}{n:Int}{o:Option Expr}{p:Pos}(h:(decide (n=-1)&&o.isNone)=true)(hv:bk prog c A env G v):bk prog c A env G (.FormattedValue v n o p):=by
 refine (band h).elim fun h1 h2=>?_
 cases of_decide_eq_true h1;cases Option.isNone_iff_eq_none.mp h2;exact fun old L=>aC.fmt (hv old L)
theorem EB {op:BoolOp}{vs:List Expr}{p:Pos}(h:∀e∈vs,iF prog c A env G e):iF prog c A env G (.BoolOp op vs p):=by
 cases op with
 |And=>exact fun old L=>aC.Al fun e he=>h e he old L
 |Or=>exact fun old L=>aC.Dw fun e he=>h e he old L
mutual
theorem cx (K:Ctx prog c d G)(e:Expr):NM prog c d G e:=by
 intro A env g f RA S
 cases e with
 |Name x p=>exact iN (fun h old L=>aC.name K.F S.glob h) trivial rfl rfl
 |Constant x k p=>exact iN (fun _ old L=>aC.const) trivial rfl rfl
 |BinOp l op r p=>exact fu (fun h old L=>aC.bin ((cx K l A env g f RA S).ev (band h).1 old L) ((cx K r A env g f RA S).ev (band h).2 old L)) trivial rfl
 |UnaryOp op x p=>exact ⟨fun h old L=>by cases Ic (band h).1;exact aC.neg ((cx K x A env g f RA S).ev (band h).2 old L),fun h old L=>by cases not_of (band h).1;exact aC.Aj ((cx K x A env g f RA S).ts (band h).2 old L),trivial⟩
 |IfExp t b o p=>exact fu (fun h old L=>aC.ite ((cx K t A env g f RA S).ts (band h).1 old L) ((cx K b A env g f RA S).ev (band (band h).2).1 old L) ((cx K o A env g f RA S).ev (band (band h).2).2 old L)) trivial rfl
 |Compare l ops rs p=>
  have q:(tI ops rs&&(jt g f l&&ju g f rs))=true→_:=fun h=>Ii (p:=p) RA K S ((cx K l A env g f RA S).ev (band (band h).2).1) (iO K rs A env g f RA S (band (band h).2).2) (band h).1
  exact ⟨fun h=>(q h).1,fun h=>(q h).2,trivial⟩
 |Call fn as ks p=>exact iN (Ez K RA S (cx K fn A env g f RA S) (iO K as A env g f RA S)) trivial rfl rfl
 |Attribute o a p=>exact iN (fun h old L=>aC.attr K.F (band h).1 ((cx K o A env g f RA S).ev (band h).2 old L)) (cx K o A env g f RA S).ev rfl rfl
 |Subscript v i p=>exact iN (fun h=>Ih ((cx K v A env g f RA S).ev (band h).1) (cx K i A env g f RA S) (band h).2) trivial rfl rfl
 |List es p=>exact fu (fun h old L=>aC.list (of_decide_eq_true (band h).1) ((iO K es A env g f RA S (band h).2).row old L)) trivial rfl
 |Tuple es k p=>exact fu (fun h old L=>aC.tuple (of_decide_eq_true (band h).1) ((iO K es A env g f RA S (band h).2).row old L)) trivial rfl
 |Dict ks vs p=>exact fu (fun h=>EA K (fun o ho=>xk K ks o ho A env g f RA S) (iO K vs A env g f RA S (band (band h).2).2) (band (band h).2).1 (band h).1) trivial rfl
 |ListComp elt gs sc p=>exact fu (fun h=>BF S (mT K gs A env g f sc RA S (band h).1) fun eM S'=>(cx K elt A eM _ _ RA S').ev (band h).2) trivial rfl
 |DictComp k v gs sc p=>
  exact fu (fun h=>BG K S (mT K gs A env g f sc RA S (band h).1) (fun eM S'=>(cx K k A eM _ _ RA S').ev (band (band h).2).1) fun eM S'=>(cx K v A eM _ _ RA S').ev (band (band h).2).2) trivial rfl
 |JoinedStr es p=>exact fu (fun h old L=>aC.joined (of_decide_eq_true (band h).1) fun e he=>(iO K es A env g f RA S (band h).2).e e he old L) trivial rfl
 |FormattedValue v n o p=>exact fu (fun h=>Ij (band h).1 ((cx K v A env g f RA S).ev (band h).2)) trivial rfl
 |BoolOp op vs p=>exact ⟨fun h=>(by exact d9 h),fun h=>EB (rh K vs A env g f RA S h),trivial⟩
 |Slice lo hi st p=>exact ⟨fun h=>(by exact d9 h),fun h=>(by cases h),vM K lo A env g f RA S,vM K hi A env g f RA S⟩
 |_=>exact ⟨fun h=>(by exact d9 h),fun h=>(by cases h),trivial⟩
termination_by structural e
theorem rh (K:Ctx prog c d G)(es:List Expr):NO prog c d G es:=by
 intro A env g f RA S h
 cases es with
 |nil=>exact fun _ q=>nomatch q
 |cons e r=>exact List.forall_mem_cons.mpr ⟨(cx K e A env g f RA S).ts (band h).1,rh K r A env g f RA S (band h).2⟩
termination_by structural es
theorem iO (K:Ctx prog c d G)(es:List Expr):Ig prog c d G es:=by
 intro A env g f RA S h
 cases es with
 |nil=>exact ⟨(fun _ q=>nomatch q),(fun _ q=>nomatch q),(fun _ q=>nomatch q)⟩
 |cons e r=>
  have R:=iO K r A env g f RA S (band h).2;have h:=band (band h).1;exact ⟨List.forall_mem_cons.mpr ⟨h.1,R.s⟩,List.forall_mem_cons.mpr ⟨(cx K e A env g f RA S).ev h.2,R.e⟩,List.forall_mem_cons.mpr ⟨yI h.2,R.n⟩⟩
termination_by structural es
theorem vM (K:Ctx prog c d G)(o:Option Expr):Pw prog c d G o:=by
 intro A env g f RA S h
 cases o with
 |none=>exact fun _ q=>nomatch q
 |some e=>exact fun _ q=>Option.some.inj q▸(cx K e A env g f RA S).ev h
termination_by structural o
theorem xk (K:Ctx prog c d G)(os:List (Option Expr)):NP prog c d G os:=by
 cases os with
 |nil=>exact fun _ q=>nomatch q
 |cons k r=>exact List.forall_mem_cons.mpr ⟨vM K k,xk K r⟩
termination_by structural os
theorem Ik (K:Ctx prog c d G)(x:Comprehension):∀(A:Around) (env:PySem.Env) (g f:Str→Bool) (sc:Scope),ft (4 * d+1) A→bz g f env→Pu g f sc x=true→BE prog c A env G f sc [x]:=by
 intro A env g f sc RA S h
 cases x with
 |mk t it ifs a=>
  obtain ⟨h1,h2⟩:=band h;obtain ⟨h3,h4⟩:=band h1;obtain ⟨h5,h6⟩:=band h2;refine (band h6).elim fun h7 h8=>?_
  obtain ⟨y,p,rfl,ok⟩:=Ey h4;cases of_decide_eq_true h3;exact .mk y p it ifs ok (pY h5 env) ((cx K it A env g f RA S).ev h7) fun cl C S'=>rh K ifs A _ _ _ RA S' h8
termination_by structural x
theorem mT (K:Ctx prog c d G)(gs:List Comprehension):NN prog c d G gs:=by
 intro A env g f sc RA S h
 cases gs with
 |nil=>exact d9 h
 |cons x r=>
  obtain ⟨h1,h2⟩:=band h;cases nil_of h1;exact Ik K x A env g f sc RA S h2
termination_by structural gs
end
end
noncomputable def xl:Expr→Bool
 |.ListComp ..=>false
 |.SetComp ..=>false
 |.DictComp ..=>false
 |_=>true
theorem BH {v:Expr}{t:Option Expr}{l:Nat}{env:PySem.Env}(h:xl v=true):swapsWith v t l env=pure false:=by
 cases v<;>first|rfl|exact d9 h
theorem ED {v o:Expr}{a:Str}{p:Pos}{l:Nat}{env:PySem.Env}:swapsWith v (some (.Attribute o a p)) l env=pure false:=by
 cases v<;>rfl
theorem BI {v o i:Expr}{p:Pos}{l:Nat}{env:PySem.Env}:swapsWith v (some (.Subscript o i p)) l env=pure false:=by
 cases v<;>rfl
theorem EE {v:Expr}{x:Str}{p:Pos}{l:Nat}{env:PySem.Env}:∃b,swapsWith v (some (.Name x p)) l env=pure b:=by
 cases v<;>exact ⟨_,rfl⟩
noncomputable def lc (sc:Scope)(x:Str):Bool:=aP sc .local x||aP sc .cell x
noncomputable def nm (x:Str):Bool:=!(x == ("__debug__":Str))&&!(x == ("__classdict__":Str))
noncomputable def xm:Expr→Bool
 |.Call ..=>true
 |_=>false
noncomputable def BJ (f:Str→Bool)(sc:Scope):Bool:=
 (sc.kind == .function&&(!sc.isCoroutine&&!sc.isGenerator))&&(decide ((sc.names.map (·.1)).Nodup)&&sc.names.all (fun p=>!(p.2 == .cell)&&(!(p.2 == .free)||f p.1)))
theorem Il {f:Str→Bool}{sc:Scope}(h:BJ f sc=true):Kp f sc:=by
 simp only [BJ,Bool.and_eq_true,decide_eq_true_eq,List.all_eq_true,Bool.not_eq_true',Bool.or_eq_true,beq_iff_eq,beq_eq_false_iff_ne,ne_eq] at h;obtain ⟨⟨h1,h2,h3⟩,h4,h5⟩:=h;exact ⟨h1,h2,h3,h4,fun p hp=>(h5 p hp).1,fun p hp e=>(h5 p hp).2.elim (fun q=>absurd e q) id⟩
noncomputable abbrev vN (sc:Scope)(e:Expr):Bool:=jt (aP sc .globalImplicit) (aP sc .cell) e
noncomputable def vQ:Expr→Bool
 |.Call f _ ks p=>ks.isEmpty&&(match f with
  |.Attribute _ _ ap=>ap.endLine == p.line
  |_=>false)
 |_=>false
noncomputable def L4 (sc:Scope)(e:Expr):Bool:=match C2 e with
 |.one x _ as _=>(nm x&&vQ e)&&(decide (as.length < 20)&&ju (aP sc .globalImplicit) (aP sc .cell) as)
 |.two x _ _ as _=>(nm x&&vQ e)&&(decide (as.length < 20)&&ju (aP sc .globalImplicit) (aP sc .cell) as)
 |.no=>(q7 e&&xl e)&&vN sc e
noncomputable def Px (sc:Scope):Option Expr→Bool
 |none=>true
 |some e=>(match nameOf e with
  |some x=>nm x
  |none=>true)&&vN sc e
noncomputable def Im:List Expr→Option (Arguments×Expr×Scope×Pos)
 |e::r=>match e with
  |.Lambda a b s p=>if r.isEmpty then some (a,b,s,p) else none
  |_=>none
 |_=>none
noncomputable def EG:Expr→Option (Str×List Keyword×Arguments×Expr×Scope×Pos)
 |.Call f as ks _=>match nameOf f,Im as with
  |some x,some q=>some (x,ks,q)
  |_,_=>none
 |_=>none
noncomputable def xn (a:Arguments):Bool:=a.posonlyargs.isEmpty&&(a.args.isEmpty&&(a.vararg.isNone&&(a.kwonlyargs.isEmpty&&(a.kw_defaults.isEmpty&&(a.kwarg.isNone&&a.defaults.isEmpty)))))
noncomputable def Py (sc:Scope)(cS:Bool)(lp:Pos)(x:Str)(v:Expr):Bool:=lc sc x&&(match EG v with
 |some (kn,ks,a,b,s,p)=>((cS&&kn == "_law_kept")&&(ks.isEmpty&&xn a)) &&
   ((decide (p=lp)&&BJ (aP sc .cell) s)&&(aP sc .globalImplicit "_law_kept"&&jt (aP s .globalImplicit) (aP s .free) b))
 |none=>vN sc v)
noncomputable def Pz (sc:Scope)(cS:Bool)(lp:Pos)(v:Expr):mE→Bool
 |.name x=>Py sc cS lp x v
 |.attr x a=>if a="attrs"∨a="shared" then nm x&&vN sc v else true
 |.key x i=>nm x&&(vN sc v&&vN sc i)
 |.uF x _ i=>nm x&&(vN sc v&&vN sc i)
 |.tup ns=>(match bS ns with|some xs=>xs.all (lc sc)|none=>false)&&(xm v&&vN sc v)
 |.no=>false
noncomputable def GI (sc:Scope):mE→Bool
 |.uF x _ i=>nm x&&vN sc i
 |_=>false
noncomputable def GJ (sc:Scope)(v:Expr):Option Str→Bool
 |some x=>(lc sc x&&nm x)&&vN sc v
 |none=>false
noncomputable def GL (sc:Scope)(it:Expr)(o:List Stmt):Option Str→Bool
 |some x=>(lc sc x&&o.isEmpty)&&(vI it&&vN sc it)
 |none=>false
noncomputable def mU:Option Expr→Bool
 |some (.Call _ _ ks _)=>ks.isEmpty
 |_=>false
noncomputable def xo (sc:Scope)(h:Bool):Option (Str×Expr)→Bool
 |some (n,e)=>(h&&n == "Refusal")&&(aP sc .globalImplicit "Refusal"&&(noStar e&&vN sc e))
 |none=>false
mutual
noncomputable def PA (sc:Scope)(cS:Bool)(lp:Pos):Stmt→Bool
 |.Expr e _=>L4 sc e
 |.Pass _=>true
 |.Continue _=>true
 |.Return v _=>Px sc v
 |.Assign ts v _=>Pz sc cS lp v (k7 ts)
 |.AugAssign t _ v _=>GJ sc v (nameOf t)
 |.Delete ts _=>GI sc (k7 ts)
 |.If t b o _=>Es (aP sc .globalImplicit) (aP sc .cell) t&&(tK sc cS lp b&&tK sc cS lp o)
 |.For t it b o _=>GL sc it o (nameOf t)&&tK sc cS lp b
 |.While t b o _=>(o.isEmpty&&Es (aP sc .globalImplicit) (aP sc .cell) t)&&tK sc cS lp b
 |.Raise e x _=>xo sc (mU e) (gR e x)
 |.Try ..=>true
 |_=>false
noncomputable def tK (sc:Scope)(cS:Bool)(lp:Pos):List Stmt→Bool
 |[]=>true
 |s::r=>PA sc cS lp s&&tK sc cS lp r
end
inductive L5:Expr→JC→Prop
 |one (x m:Str) (as:List Expr) (p px ap:Pos) (h:(ap.endLine == p.line)=true):L5 (.Call (.Attribute (.Name x px) m ap) as [] p) (.one x m as p)
 |two (x a m:Str) (as:List Expr) (p px GD ap:Pos) (h:(ap.endLine == p.line)=true):L5 (.Call (.Attribute (.Attribute (.Name x px) a GD) m ap) as [] p) (.two x a m as p)
 |no (e:Expr):L5 e .no
theorem d6 (e:Expr):optName e=nameOf e:=by cases e<;>rfl
noncomputable def PB:JC→Bool
 |.no=>false
 |_=>true
theorem Io (e:Expr)(h:C2 e≠.no→vQ e=true):L5 e (C2 e):=by
 cases e with
 |Call f as ks p=>cases f with
  |Attribute o m ap=>cases o with
   |Name x px=>
    obtain ⟨h1,h2⟩:=band (h fun q=>Jw (congrArg PB q));cases nil_of h1;exact .one x m as p px ap h2
   |Attribute o' a GD=>
    have e1:C2 (.Call (.Attribute (.Attribute o' a GD) m ap) as ks p)=match nameOf o' with|some x=>.two x a m as p|none=>.no:=by rw [←d6];rfl
    rw [e1] at h ⊢
    induction hx:nameOf o' with
    |none=>exact .no _
    |some x=>
     rw [hx] at h;refine (band (h fun q=>Jw (congrArg PB q))).elim fun h1 h2=>?_
     cases nil_of h1;obtain ⟨px,rfl⟩:=c9 hx;exact .two x a m as p px GD ap h2
   |_=>exact .no _
  |_=>exact .no _
 |_=>exact .no _
inductive EH:List Expr→mE→Prop
 |name (x:Str) (px:Pos):EH [.Name x px] (.name x)
 |attr (x a:Str) (px p:Pos):EH [.Attribute (.Name x px) a p] (.attr x a)
 |key (x:Str) (i:Expr) (px p:Pos):EH [.Subscript (.Name x px) i p] (.key x i)
 |uF (x a:Str) (i:Expr) (px ap p:Pos):EH [.Subscript (.Attribute (.Name x px) a ap) i p] (.uF x a i)
 |tup (ns:List Expr) (k:Nat) (p:Pos):EH [.Tuple ns k p] (.tup ns)
 |no (ts:List Expr):EH ts .no
theorem BK (ts:List Expr):EH ts (k7 ts):=by
 rcases ts with _|⟨t,_|⟨_,_⟩⟩
 ·exact .no _
 ·cases t with
  |Name x px=>exact .name x px
  |Attribute o a p=>
   show EH _ (match optName o with|some x=>.attr x a|none=>.no);rw [d6]
   induction hx:nameOf o with
   |none=>exact .no _
   |some x=>obtain ⟨px,rfl⟩:=c9 hx;exact .attr x a px p
  |Subscript o i p=>cases o with
   |Name x px=>exact .key x i px p
   |Attribute o a ap=>
    show EH _ (match optName o with|some x=>.uF x a i|none=>.no);rw [d6]
    induction hx:nameOf o with
    |none=>exact .no _
    |some x=>obtain ⟨px,rfl⟩:=c9 hx;exact .uF x a i px ap p
   |_=>exact .no _
  |Tuple ns k p=>exact .tup ns k p
  |_=>exact .no _
 ·exact .no _
inductive NQ:Expr→Option (Str×List Keyword×Arguments×Expr×Scope×Pos)→Prop
 |lam (x:Str) (ks:List Keyword) (a:Arguments) (b:Expr) (s:Scope) (p np cp:Pos):NQ (.Call (.Name x np) [.Lambda a b s p] ks cp) (some (x,ks,a,b,s,p))
 |no (v:Expr):NQ v none
inductive NR:List Expr→Option (Arguments×Expr×Scope×Pos)→Prop
 |lam (a:Arguments) (b:Expr) (s:Scope) (p:Pos):NR [.Lambda a b s p] (some (a,b,s,p))
 |no (as:List Expr):NR as none
theorem Ip (as:List Expr):NR as (Im as):=by
 cases as with
 |nil=>exact .no _
 |cons e r=>cases e with
  |Lambda a b s p=>induction r with
   |nil=>exact .lam a b s p
   |cons _ _=>exact .no _
  |_=>exact .no _
theorem Iq (v:Expr):NQ v (EG v):=by
 cases v with
 |Call f as ks cp=>
  unfold EG;dsimp only;have w:=Ip as;generalize Im as=q at w ⊢
  induction h1:nameOf f with
  |none=>exact .no _
  |some x=>
   obtain ⟨np,rfl⟩:=c9 h1
   induction w with
   |no=>exact .no _
   |lam a b s p=>exact .lam x ks a b s p np cp
 |_=>exact .no _
inductive NS:Option Expr→Option Expr→Option (Str×Expr)→Prop
 |one (n:Str) (a:Expr) (np cp:Pos):NS (some (.Call (.Name n np) [a] [] cp)) none (some (n,a))
 |no (e x:Option Expr):NS e x none
theorem Ir {e x:Option Expr}(hd:mU e=true):NS e x (gR e x):=by
 cases x with
 |some _=>induction e<;>exact .no _ _
 |none=>induction e with
  |none=>exact .no _ _
  |some e=>cases e with
   |Call f as ks cp=>
    cases nil_of hd;unfold gR wG;dsimp only;rw [d6]
    induction h1:nameOf f with
    |none=>exact .no _ _
    |some c=>
     obtain ⟨np,rfl⟩:=c9 h1;rcases as with _|⟨b,_|⟨_,_⟩⟩
     ·exact .no _ _
     ·exact .one c b np cp
     ·exact .no _ _
   |_=>exact .no _ _
theorem args_eq {a1 a2 a3 a4 a5 a6 a7}(h1:a1=[])(h2:a2=[])(h3:a3=none)(h4:a4=[])(h5:a5=[])(h6:a6=none)(h7:a7=[]):Arguments.mk a1 a2 a3 a4 a5 a6 a7=noArgs:=by
 subst h1;subst h2;subst h3;subst h4;subst h5;subst h6;subst h7;rfl
theorem PC {α:Type}{o:Option α}(h:o.isNone=true):o=none:=Option.isNone_iff_eq_none.mp h
theorem yK {a:Arguments}(h:xn a=true):a=noArgs:=by
 cases a;have h:=band h;have g:=band h.2;have i:=band g.2;have j:=band i.2;have k:=band j.2;exact args_eq (nil_of h.1) (nil_of g.1) (PC i.1) (nil_of j.1) (nil_of k.1) (PC (band k.2).1) (nil_of (band k.2).2)
section
variable {prog:Program}{c:Cx}{d:Nat}{G:Calls}{A₀ A:Around}{env:PySem.Env}{I:mJ}
theorem fY {x:Str}(h:nm x=true):(x == ("__debug__":Str))=false∧(x == ("__classdict__":Str))=false:=⟨kl (band h).1,kl (band h).2⟩
theorem u5.kind (E:u5 I env)(x:Str):env.kindOf x=I.scope.names.lookup x:=by show env.scope.names.lookup x=_;rw [E.scope]
theorem tL (E:u5 I env){x:Str}(h:lc I.scope x=true):env.kindOf x=some .local∨env.kindOf x=some .cell:=by
 rw [E.kind];exact (Bool.or_eq_true_iff.mp h).imp eq_of_beq eq_of_beq
structure Cs (prog:Program) (c:Cx) (d:Nat) (G:Calls) (A:Around) (env:PySem.Env) (I:mJ):Prop where
 K:Ctx prog c d G
 E:u5 I env
 kind:I.scope.kind=.function
 RA:ft (4 * d+3) A
theorem Cs.R (C:Cs prog c d G A env I):ft (4 * d+1) A:=C.RA.mono (Nat.le_add_right _ 2)
theorem Cs.room (C:Cs prog c d G A env I):A.depth+1 < recursionLimit:=Nat.lt_of_le_of_lt (Nat.le_trans (Nat.add_le_add_left (Nat.le_add_left 1 _) _) C.R.1) (by decide)
theorem Cs.e (C:Cs prog c d G A env I){e:Expr}(h:vN I.scope e=true):bk prog c A env G e:=(cx C.K e A env _ _ C.R C.E.u6).ev h
theorem Cs.t (C:Cs prog c d G A env I){e:Expr}(h:Es (aP I.scope .globalImplicit) (aP I.scope .cell) e=true):iF prog c A env G e:=(cx C.K e A env _ _ C.R C.E.u6).ts h
theorem Cs.r (C:Cs prog c d G A env I){es:List Expr}(h:ju (aP I.scope .globalImplicit) (aP I.scope .cell) es=true):Row prog c A env G (aP I.scope .globalImplicit) es:=iO C.K es A env _ _ C.R C.E.u6 h
theorem Cs.int (C:Cs prog c d G A env I):interactive env=false:=by
 unfold interactive;rw [C.E.scope,C.kind];rfl
theorem yL (C:Cs prog c d G A env I){x:Str}{px pos:Pos}{v:Expr}(h1:lc I.scope x=true)(h3:vN I.scope v=true):Sd prog c A₀ A env G (.Assign [.Name x px] v pos):=by
 have S:=C.E.u6;have hk:=tL C.E h1;refine (EE (v:=v) (x:=x) (p:=px) (l:=pos.line) (env:=env)).elim fun b hb=>?_
 induction b with
 |false=>exact gp.assign hk hb (C.e h3)
 |true=>
  cases v with
  |ListComp elt gs sc p=>
   have hg:=mT C.K gs A env _ _ sc C.R S (band h3).1;have he:=fun eM S'=>(cx C.K elt A eM _ _ C.R S').ev (band h3).2
   induction hg with
   |mk y q it ifs ok hf hi ht=>exact gp.tu S ok hk hb hi ht (fun cl C=>he _) hf
  |DictComp k e gs sc p=>
   have hg:=mT C.K gs A env _ _ sc C.R S (band h3).1;have dh:=fun eM S'=>(cx C.K k A eM _ _ C.R S').ev (band (band h3).2).1
   have he:=fun eM S'=>(cx C.K e A eM _ _ C.R S').ev (band (band h3).2).2
   induction hg with
   |mk y q it ifs ok hf hi ht=>exact gp.tv C.K.F S ok hk hb hi ht (fun cl C=>dh _) (fun cl C=>he _) hf
  |SetComp=>exact d9 h3
  |_=>exact gp.assign hk rfl (C.e h3)
theorem It (C:Cs prog c d G A env I){cS:Bool}(hh:cS=true→Bo c env){x:Str}{px pos:Pos}{v:Expr}(h:Py I.scope cS c.dB x v=true):Sd prog c A₀ A env G (.Assign [.Name x px] v pos):=by
 refine (band h).elim fun h1 h2=>?_
 have w:=Iq v;generalize EG v=q at w h2
 induction w with
 |no=>exact yL C h1 h2
 |lam kn ks a b s p np cp=>
  refine ((band h2).imp band band).elim fun g1 g2=>?_
  refine (g1.imp band band).elim fun g5 g6=>?_
  refine (g2.imp band band).elim fun g7 g8=>?_
  cases nil_of g6.1;cases eq_of_beq g5.2;cases of_decide_eq_true g7.1;cases yK g6.2;obtain ⟨fk,KF⟩:=C.K.kept;exact gp.assign (tL C.E h1) rfl fun old L=>aC.kept C.K.F C.K.exc C.K.get C.K.lam KF C.E.u6 (hh g5.1) (Il g7.2) (C.E.u6.glob _ g8.1) C.room fun ee le S'=>(cx C.K b _ _ _ _ (ft.deeper (ft.deeper C.RA)) S').ev g8.2
theorem xp {v:Expr}{es:List Expr}{k:Nat}{tp:Pos}{l:Nat}(hv:xm v=true):swapsWithSole [.Tuple es k tp] v l env=pure false∧swappedStores [.Tuple es k tp] v env=pure none:=by
 cases v<;>first|exact ⟨rfl,rfl⟩|exact d9 hv
theorem Iu (C:Cs prog c d G A env I){cS:Bool}(hh:cS=true→Bo c env){ts:List Expr}{pos:Pos}{v:Expr}(h:Pz I.scope cS c.dB v (k7 ts)=true):Sd prog c A₀ A env G (.Assign ts v pos):=by
 have w:=BK ts;generalize k7 ts=t at w h
 cases w with
 |name x px=>exact It C hh h
 |attr x a px p=>
  by_cases ha:a="attrs"∨a="shared"
  ·have h:=band ((if_pos ha).symm.trans h);exact Sd.setattr C.K.F C.K.N (fY h.1).1 (fY h.1).2 ED (C.e h.2)
  ·exact gp.never fun L σ=>congrFun (if_neg ha) σ
 |key x i px p=>exact Sd.H6 (fY (band h).1).1 (fY (band h).1).2 BI (C.e (band (band h).2).1) (C.e (band (band h).2).2)
 |uF x a i px ap p=>exact Sd.KR C.K.F (fY (band h).1).1 (fY (band h).1).2 BI (C.e (band (band h).2).1) (C.e (band (band h).2).2)
 |tup ns k p=>
  obtain ⟨h1,h2⟩:=band h;refine (band h2).elim fun h3 h4=>?_
  induction hx:bS ns with
  |none=>rw [hx] at h1;exact d9 h1
  |some xs=>rw [hx] at h1;exact Sd.tuple hx (fun x hx=>tL C.E (List.all_eq_true.mp h1 x hx)) (xp (l:=pos.line) h3).1 (xp (l:=pos.line) h3).2 (C.e h4)
 |no=>exact d9 h
theorem Iv (C:Cs prog c d G A env I){e:Expr}{pos:Pos}(h:L4 I.scope e=true):Sd prog c A₀ A env G (.Expr e pos):=by
 have w:=Io e (fun hn=>by
  unfold L4 at h
  induction he:C2 e with
  |no=>exact absurd he hn
  |one=>rw [he] at h;exact (band (band h).1).2
  |two=>rw [he] at h;exact (band (band h).1).2)
 unfold L4 at h;generalize C2 e=t at w h
 induction w with
 |one x m as p px ap hl=>
  obtain ⟨⟨h1,_⟩,⟨h3,h4⟩⟩:=(band h).imp band band;exact Sd.NA (fY h1).1 (fY h1).2 hl (of_decide_eq_true h3) (C.r h4).s C.int (C.r h4).row
 |two x a m as p px GD ap hl=>
  obtain ⟨⟨h1,_⟩,⟨h3,h4⟩⟩:=(band h).imp band band;exact Sd.NB C.K.F (fY h1).1 (fY h1).2 hl (of_decide_eq_true h3) (C.r h4).s C.int (C.r h4).row
 |no=>exact Sd.expr (band (band h).1).1 C.int (BH (band (band h).1).2) (C.e (band h).2)
theorem Iw (C:Cs prog c d G A env I){v:Option Expr}{pos:Pos}(h:Px I.scope v=true):Sd prog c A₀ A env G (.Return v pos):=by
 cases v with
 |none=>exact Sd.Nt
 |some e=>exact Sd.ret (fun x p q=>by subst q;exact fY (band h).1) (C.e (band h).2)
def QV (prog:Program)(c:Cx)(G:Calls)(I:mJ)(cS:Bool)(A₀ A:Around)(env:PySem.Env)(st:Stmt):Prop:=PA I.scope cS c.dB st=true→Sd prog c A₀ A env G st
mutual
theorem Iy (C:Cs prog c d G A env I){cS:Bool}(hh:cS=true→Bo c env)(st:Stmt):QV prog c G I cS A₀ A env st:=by
 intro h
 cases st with
 |Expr e p=>exact Iv C h
 |Pass p=>exact Sd.pass
 |Continue p=>exact Sd.continue_
 |Return v p=>exact Iw C h
 |Assign ts v p=>exact Iu C hh h
 |AugAssign t op v p=>
  have h:GJ I.scope v (nameOf t)=true:=h
  induction hx:nameOf t with
  |none=>rw [hx] at h;exact d9 h
  |some x=>
   rw [hx] at h;obtain ⟨px,rfl⟩:=c9 hx;exact Sd.aug (tL C.E (band (band h).1).1) (fY (band (band h).1).2).2 (C.e (band h).2)
 |Delete ts p=>
  have h:GI I.scope (k7 ts)=true:=h;have w:=BK ts;generalize k7 ts=t at w h
  induction w with
  |uF x a i px ap p=>exact Sd.KS C.K.F (fY (band h).1).1 (fY (band h).1).2 (C.e (band h).2)
  |_=>exact d9 h
 |If t b o p=>exact Sd.QL (C.t (band h).1) (ji C hh b (band (band h).2).1) (ji C hh o (band (band h).2).2)
 |For t it b o p=>
  have hb:xi prog c A₀ A env G b:=ji C hh b (band h).2;have h9:GL I.scope it o (nameOf t)=true:=(band h).1;clear h
  induction hx:nameOf t with
  |none=>rw [hx] at h9;exact d9 h9
  |some x=>
   rw [hx] at h9;obtain ⟨px,rfl⟩:=c9 hx;obtain ⟨⟨h1,h2⟩,⟨h3,h4⟩⟩:=(band h9).imp band band;cases nil_of h2;exact Sd.Bv (tL C.E h1) (pY h3 env) (C.e h4) hb
 |While t b o p=>
  cases nil_of (band (band h).1).1;exact Sd.om (C.t (band (band h).1).2) (ji C hh b (band h).2)
 |Raise e x p=>
  have h:xo I.scope (mU e) (gR e x)=true:=h
  induction hd:mU e with
  |false=>rw [hd] at h;induction hr:gR e x<;>rw [hr] at h<;>exact d9 h
  |true=>
   have w:=Ir (x:=x) hd;generalize gR e x=q at w h
   induction w with
   |no=>exact d9 h
   |one n a np cp=>
    obtain ⟨h1,⟨h3,h4⟩⟩:=(band h).imp band band;cases eq_of_beq h1.2;exact gp.raise C.K.F C.K.exc (C.E.u6.glob _ h3) C.room (band h4).1 (C.e (band h4).2)
 |Try b hs o f p=>exact gp.never fun L σ=>rfl
 |_=>exact d9 h
termination_by structural st
theorem ji (C:Cs prog c d G A env I){cS:Bool}(hh:cS=true→Bo c env)(b:List Stmt):tK I.scope cS c.dB b=true→xi prog c A₀ A env G b:=by
 intro h
 cases b with
 |nil=>exact xi.nil
 |cons s r=>exact xi.cons (Iy C hh s (band h).1) (ji C hh r (band h).2)
termination_by structural b
end
end
noncomputable def defOf (n:Str):Option mJ:=PySem.Challenge.pw_nz0494_01.main.body.findSome? (pf n)
noncomputable def mV:Pos:={line:=627,col:=25,endLine:=627,endCol:=57}
noncomputable def BL (n:Str):Bool:=match defOf n with
 |some I=>HK I&&tK I.scope (n == "law") mV I.body
 |none=>false
theorem EI:defNames.all BL=true:=by decide +kernel
theorem Iz {n:Str}{I:mJ}(h:n∈defNames)(e:defOf n=some I):HK I=true∧tK I.scope (n == "law") mV I.body=true:=by
 have:=List.all_eq_true.mp EI n h;unfold BL at this;rw [e] at this;exact band this
theorem IA (f:Str)(s:Stmt):wH f s=(pf f s).map fun I=>⟨I.params,I.body⟩:=by
 cases s with
 |FunctionDef m=>
  unfold wH pf;dsimp only;by_cases hm:m=f
  ·rw [if_pos hm,if_pos hm];rfl
  ·rw [if_neg hm,if_neg hm];rfl
 |_=>rfl
theorem lM {f:Str}:∀(l:List Stmt),l.findSome? (wH f)=(l.findSome? (pf f)).map fun I=>⟨I.params,I.body⟩
 |[]=>rfl
 |s::l=>by
  rw [List.findSome?_cons,List.findSome?_cons,IA]
  induction pf f s with
  |none=>exact lM l
  |some I=>rfl
theorem EJ {f:Str}{s:Stmt}{l:List Stmt}:(∃I,pf f s=some I)∧f∈kH (s::l)∨pf f s=none∧(f∈kH l→f∈kH (s::l)):=by
 cases s with
 |FunctionDef m=>
  unfold pf;dsimp only;by_cases hm:m=f
  ·rw [if_pos hm];subst hm;exact .inl ⟨⟨_,rfl⟩,.head _⟩
  ·rw [if_neg hm];exact .inr ⟨rfl,fun h=>.tail _ h⟩
 |_=>exact .inr ⟨rfl,id⟩
theorem rj {f:Str}{I:mJ}:∀(l:List Stmt),l.findSome? (pf f)=some I→f∈kH l
 |[],h=>by exact bR h
 |s::l,h=>by
  rcases EJ (f:=f) (s:=s) (l:=l) with ⟨_,q⟩|⟨q,k⟩
  ·exact q
  ·rw [List.findSome?_cons,q] at h;exact k (rj l h)
structure BN (c:Cx):Prop where
 at_:∀n I,defOf n=some I→∃fa cd qn,c.mg n=some (.ref fa)∧keepIn c.K (.ref fa)=true∧FnAt c I fa cd qn∧(n="law"→cd=.ref c.code∧qn++".<locals>."++"<lambda>"=c.jc)
structure Base (prog:Program) (c:Cx):Prop where
 F:Facts c
 N:d5 c
 D:BN c
 exc:dt c
 get:jR c
 lam:iJ c
 kept:∃fk,oh c fk
 pos:c.dB=mV
theorem BO:∀n∈defNames,(defOf n).isSome=true:=by decide +kernel
theorem yM:∀n∈lK,defOf n=none:=by decide +kernel
theorem BP {d:Nat}{f:Str}{fn:Fn}{ts:List T}(h:fnOf f=some fn):ae (d+1) f ts=fF (ae d) (decide (f="law")) fn ts:=by
 show (match fnOf f with|some fn=>fF (ae d) (decide (f="law")) fn ts|none=>stuck)=_;rw [h]
theorem tM {d:Nat}{f:Str}{ts:List T}(h:defOf f=none):ae d f ts=stuck:=by
 induction d with
 |zero=>rfl
 |succ d=>
  show (match fnOf f with|some fn=>fF (ae d) (decide (f="law")) fn ts|none=>stuck)=_;rw [show fnOf f=(defOf f).map _ from lM _,h];rfl
theorem tN {prog:Program}{c:Cx}(B:Base prog c):∀(d:Nat) (A:Around),ft (4 * d) A→M6 prog c A (ae d)
 |0,A,_=>fun f ts vs Γ σ s P rl ne=>absurd rfl ne
 |d+1,A,RA=>by
  have K:Ctx prog c d (ae d):=by
   refine ⟨B.F,B.N,fun fn h=>?_,fun A' R=>tN B d A' R,fun fn h ts=>tM (yM fn h),B.exc,B.get,B.lam,B.kept⟩;obtain ⟨I,hI⟩:=Option.isSome_iff_exists.mp (BO fn h);obtain ⟨fa,cd,qn,h1,h2,_⟩:=B.D.at_ fn I hI;exact ⟨fa,h1,h2⟩
  intro f ts vs Γ σ s P rl ne
  induction hd:defOf f with
  |none=>exact absurd (congrFun (tM hd) σ) ne
  |some I=>
   have e:=congrFun (BP (d:=d) (ts:=ts) ((lM _).trans (congrArg (Option.map _) hd))) σ;obtain ⟨c1,c2⟩:=Iz (rj _ hd) hd;obtain ⟨fa,cd,qn,h1,h2,h3,h4⟩:=B.D.at_ f I hd;have PD:=DZ c1;refine ⟨fa,h1,Wp.of e (A1 B.F h3 PD P rl (Nat.lt_of_le_of_lt (Nat.le_trans (Nat.le_add_right ..) RA.1) (by decide)) (fun env EF hc hq=>?_) fun q=>ne (e.trans q))⟩;rw [←B.pos] at c2;exact ji ⟨K,EF,PD.kind,ft.deeper (RA.mono (Nat.le_refl _))⟩ (fun cS=>⟨hc.trans (h4 (eq_of_beq cS)).1,by rw [hq];exact (h4 (eq_of_beq cS)).2⟩) I.body c2
end Mine.Internal
end
section
namespace Mine.Internal
open PySem
structure Lv where
 loc:List (Str×Option T)
 own:List (Str×T×Kd):=[]
 mv:List Str:=[]
 cS:Bool:=false
noncomputable def jC (l:List (Str×Option T))(y:Str):Option T:=match l with
 |[]=>none
 |(x,o)::r=>if y=x then o else jC r y
noncomputable def rm (l:List (Str×Option T))(x:Str)(o:Option T):List (Str×Option T):=match l with
 |[]=>[(x,o)]
 |(y,u)::r=>if y=x then (y,o)::r else (y,u)::rm r x o
noncomputable def Lv.ev (L:Lv):Ev:={loc:=jC L.loc,own:=L.own,mv:=L.mv,cS:=L.cS}
theorem rn (l:List (Str×Option T))(x:Str)(o:Option T):jC (rm l x o)=fun y=>if y=x then o else jC l y:=by
 funext y
 induction l with
 |nil=>rfl
 |cons p l ih=>
  obtain ⟨z,u⟩:=p;show jC (if z=x then (z,o)::l else (z,u)::rm l x o) y=if y=x then o else if y=z then u else jC l y
  by_cases hz:z=x
  ·subst hz;rw [if_pos rfl];show (if y=z then o else jC l y)=_;by_cases h:y=z
   ·rw [if_pos h,if_pos h]
   ·rw [if_neg h,if_neg h,if_neg h]
  ·rw [if_neg hz];show (if y=z then u else jC (rm l x o) y)=_;by_cases h:y=z
   ·subst h;rw [if_pos rfl,if_neg hz,if_pos rfl]
   ·rw [if_neg h,ih,if_neg h]
noncomputable def Lv.ax (L:Lv)(x:Str)(t:T):Lv:={L with loc:=rm L.loc x (some t),own:=iA x L.own}
noncomputable def Lv.gQ (L:Lv)(x:Str)(t:T)(k:Kd):Lv:={L with loc:=rm L.loc x none,own:=(x,t,k)::iA x L.own}
noncomputable def Lv.bL (L:Lv)(x:Str)(t:T):Lv:={L with own:=L.own.map fun p=>if p.1=x then (p.1,t,p.2.2) else p}
theorem Lv.cj (L:Lv)(x:Str)(t:T):(L.ax x t).ev=L.ev.ax x t:=
 congrArg (fun f=>({loc:=f,own:=iA x L.own,mv:=L.mv,cS:=L.cS}:Ev)) (rn L.loc x (some t))
theorem Lv.vR (L:Lv)(x:Str)(t:T)(k:Kd):(L.gQ x t k).ev=L.ev.gQ x t k:=
 congrArg (fun f=>({loc:=f,own:=(x,t,k)::iA x L.own,mv:=L.mv,cS:=L.cS}:Ev)) (rn L.loc x none)
noncomputable def jv (e:Expr):List (Str×T×Kd)→List (Str×Option T)→List (Str×Option T)×List (Str×T×Kd)
 |[],loc=>(loc,[])
 |(x,t,k)::r,loc=>if ej x e then (rm (jv e r loc).1 x (some t),(jv e r loc).2) else ((jv e r loc).1,(x,t,k)::(jv e r loc).2)
noncomputable def bA (e:Expr)(L:Lv):Lv:=match L.own with
 |[]=>L
 |o=>{L with loc:=(jv e o L.loc).1,own:=(jv e o L.loc).2}
theorem xq (e:Expr):∀(o:List (Str×T×Kd)) (l:List (Str×Option T)),bE e o (jC l)=(jC (jv e o l).1,(jv e o l).2)
 |[],l=>rfl
 |(x,t,k)::r,l=>by
  show (if ej x e=true then (upd (bE e r (jC l)).1 x t,(bE e r (jC l)).2) else ((bE e r (jC l)).1,(x,t,k)::(bE e r (jC l)).2))=(jC (if ej x e=true then (rm (jv e r l).1 x (some t),(jv e r l).2) else ((jv e r l).1,(x,t,k)::(jv e r l).2)).1,(if ej x e=true then (rm (jv e r l).1 x (some t),(jv e r l).2) else ((jv e r l).1,(x,t,k)::(jv e r l).2)).2);rw [xq e r l];by_cases h:ej x e=true
  ·rw [if_pos h,if_pos h,rn];rfl
  ·rw [if_neg h,if_neg h]
theorem bM (e:Expr)(L:Lv):settle e L.ev=(bA e L).ev:=by
 obtain ⟨loc,own,mv,cS⟩:=L
 induction own with
 |nil=>rfl
 |cons p r=>
  show {loc:=(bE e (p::r) (jC loc)).1,own:=(bE e (p::r) (jC loc)).2,mv:=mv,cS:=cS:Ev}=_;rw [xq];rfl
inductive Hint where
 |b (b:Bool)|v (r:Res (T×Kd))|p (a:T×Kd)|l (l:List T)|o (o:Out) (L:Lv) (s:Sg)|x (m:Str) (s:Sg)
structure Tp where
 tO:List (Str×Nat×Hint)
 facts:List Prop
set_option genCtorIdx true in
inductive VR (α:Type) where
 |ok (a:α) (s:Sg) (p:Tp)
 |ct (m:Str) (s:Sg) (p:Tp)
 |stuck
abbrev V (α:Type):=Sg→Tp→VR α
noncomputable def VR.go {α β:Type}(f:α→V β):VR α→VR β
 |.ok a s' p'=>f a s' p'
 |.ct e s' p'=>.ct e s' p'
 |.stuck=>.stuck
noncomputable def V.bind {α β:Type}(m:V α)(f:α→V β):V β:=fun s p=>(m s p).go f
noncomputable def V.pure {α:Type}(a:α):V α:=fun s p=>.ok a s p
noncomputable instance:Monad V where
 pure:=V.pure
 bind:=V.bind
noncomputable def aw {α:Type}:V α:=fun _ _=>.stuck
noncomputable def Res.vr {α:Type}(p:Tp):Res α→VR α
 |.ok a s=>.ok a s p
 |.ct e s=>.ct e s p
 |.stuck=>.stuck
noncomputable def V.of {α:Type}(m:M α):V α:=fun s p=>(m s).vr p
inductive Tk where
 |use (h:Hint) (r:List (Str×Nat×Hint))|go (r:List (Str×Nat×Hint))
noncomputable def tk (k:Str):List (Str×Nat×Hint)→Tk
 |[]=>.go []
 |(j,n,h)::r=>if j=k then (match n with
  |0=>.use h r
  |n+1=>.go ((j,n,h)::r)) else .go ((j,n,h)::r)
noncomputable def ix (c:Bool):V Bool:=fun s p=>match tk "?" p.tO with
 |.go r=>(match c with
  |true=>.ok true s ⟨r,p.facts⟩
  |false=>.ok false s ⟨r,p.facts⟩)
 |.use h r=>(match h with
  |.b b=>.ok b s ⟨r,(c=b)::p.facts⟩
  |_=>.stuck)
noncomputable def pk (k:Str)(m:M (T×Kd))(go:V (T×Kd)):V (T×Kd):=fun s p=>match tk k p.tO with
 |.go r=>go s ⟨r,p.facts⟩
 |.use h r=>(match h with
  |.v R=>R.vr ⟨r,(m s=R)::p.facts⟩
  |.p a=>.ok a s ⟨r,(∀s,m s=.ok a s)::p.facts⟩
  |_=>.stuck)
noncomputable def ro (v:T):V (List T):=fun s p=>match tk "it" p.tO with
 |.go r=>V.of (iterM v) s ⟨r,p.facts⟩
 |.use h r=>(match h with
  |.l l=>.ok l s ⟨r,(gB v=some l)::p.facts⟩
  |_=>.stuck)
noncomputable def tP (k:Str)(m:M (Out×Ev))(go:V (Out×Lv)):V (Out×Lv):=fun s p=>match tk k p.tO with
 |.go r=>go s ⟨r,p.facts⟩
 |.use h r=>(match h with
  |.o o L s'=>.ok (o,L) s' ⟨r,(m s=.ok (o,L.ev) s')::p.facts⟩
  |.x e s'=>.ct e s' ⟨r,(m s=.ct e s')::p.facts⟩
  |_=>.stuck)
noncomputable def op (k:Str)(m:M (T×Kd)):V (T×Kd):=pk k m (V.of m)
inductive AllP:List Prop→Prop
 |nil:AllP []
 |cons {p:Prop} {l:List Prop} (h:p) (r:AllP l):AllP (p::l)
theorem AllP.hd {p:Prop}{l:List Prop}:AllP (p::l)→p
 |.cons h _=>h
theorem AllP.tl {p:Prop}{l:List Prop}:AllP (p::l)→AllP l
 |.cons _ r=>r
inductive cy {α β:Type} (f:β→α) (R:Res α) (P:Prop):VR β→Prop
 |ok {b:β} {s:Sg} {p:Tp} (h:AllP p.facts→R=.ok (f b) s∧P):cy f R P (.ok b s p)
 |ct {e:Str} {s:Sg} {p:Tp} (h:AllP p.facts→R=.ct e s∧P):cy f R P (.ct e s p)
 |stuck:cy f R P .stuck
noncomputable def aE {α β:Type}(f:β→α)(m:M α)(v:V β):Prop:=∀s p,cy f (m s) (AllP p.facts) (v s p)
theorem cy.of {α:Type}{R R':Res α}{p:Tp}{P:Prop}(h:AllP p.facts→R=R'∧P):cy id R P (R'.vr p):=by
 induction R' with
 |ok a s=>exact .ok h
 |ct e s=>exact .ct h
 |stuck=>exact .stuck
theorem aE.of {α:Type}(m:M α):aE id m (V.of m):=fun _ _=>.of fun h=>⟨rfl,h⟩
theorem aE.pure {α β:Type}(f:β→α)(b:β):aE f (Pure.pure (f b):M α) (Pure.pure b):=fun _ _=>.ok fun h=>⟨rfl,h⟩
theorem aE.stuck {α β:Type}(f:β→α){m:M α}:aE f m aw:=fun _ _=>.stuck
theorem bf {α β:Type}{m:M α}{k:α→M β}{s s':Sg}{a:α}(h:m s=.ok a s'):(m>>=k) s=k a s':=by
 show M.bind m k s=_;unfold M.bind;rw [h]
theorem tQ {α β:Type}{m:M α}{k:α→M β}{s s':Sg}{e:Str}(h:m s=.ct e s'):(m>>=k) s=.ct e s':=by
 show M.bind m k s=_;unfold M.bind;rw [h]
theorem cy.bind {α β γ δ:Type}{f:β→α}{g:δ→γ}{m:M α}{k:α→M γ}{w:β→V δ}{s:Sg}{P:Prop}{r:VR β}(h:cy f (m s) P r)(h2:∀b,aE g (k (f b)) (w b)):cy g ((m>>=k) s) P (r.go w):=by
 induction h with
 |@ok b s' p' h=>
  have q:=h2 b s' p'
  revert q
  show cy g _ _ (w b s' p')→cy g _ _ (w b s' p');intro q
  induction hw:w b s' p' with
  |ok c s2 p2=>
   rw [hw] at q
   cases q with
   |ok q=>exact .ok fun a=>⟨(bf (h (q a).2).1).trans (q a).1,(h (q a).2).2⟩
  |ct e s2 p2=>
   rw [hw] at q
   cases q with
   |ct q=>exact .ct fun a=>⟨(bf (h (q a).2).1).trans (q a).1,(h (q a).2).2⟩
  |stuck=>exact .stuck
 |ct h=>exact .ct fun a=>⟨tQ (h a).1,(h a).2⟩
 |stuck=>exact .stuck
theorem aE.bind {α β γ δ:Type}{f:β→α}{g:δ→γ}{m:M α}{k:α→M γ}{v:V β}{w:β→V δ}(h:aE f m v)(h2:∀b,aE g (k (f b)) (w b)):aE g (m>>=k) (v>>=w):=fun s p=>(h s p).bind h2
theorem aE.ite {α β:Type}{f:β→α}{c:Prop}[Decidable c]{m n:M α}{v w:V β}(h:aE f m v)(h2:aE f n w):aE f (if c then m else n) (if c then v else w):=by
 by_cases hc:c
 ·rw [if_pos hc,if_pos hc];exact h
 ·rw [if_neg hc,if_neg hc];exact h2
theorem aE.ix (c:Bool):aE id (Pure.pure c:M Bool) (ix c):=fun s p=>by
 unfold Internal.ix
 induction tk "?" p.tO with
 |go r=>induction c<;>exact .ok fun h=>⟨rfl,h⟩
 |use h r=>
  induction h with
  |b b=>exact .ok fun h=>⟨congrArg (Res.ok · s) h.hd,h.tl⟩
  |_=>exact .stuck
theorem aE.pk {k:Str}{m:M (T×Kd)}{go:V (T×Kd)}(h:aE id m go):aE id m (pk k m go):=fun s p=>by
 unfold Internal.pk
 induction tk k p.tO with
 |go r=>exact h s ⟨r,p.facts⟩
 |use h r=>
  induction h with
  |v R=>exact .of fun h=>⟨h.hd,h.tl⟩
  |p a=>exact .ok fun h=>⟨h.hd s,h.tl⟩
  |_=>exact .stuck
theorem aE.op (k:Str)(m:M (T×Kd)):aE id m (op k m):=.pk (.of m)
theorem aE.ro (v:T):aE id (iterM v) (ro v):=fun s p=>by
 unfold Internal.ro
 induction tk "it" p.tO with
 |go r=>exact aE.of (iterM v) s ⟨r,p.facts⟩
 |use h r=>
  induction h with
  |l l=>exact .ok fun h=>⟨congrFun (congrArg ay h.hd) s,h.tl⟩
  |_=>exact .stuck
noncomputable abbrev oE (q:Out×Lv):Out×Ev:=(q.1,q.2.ev)
theorem aE.tP {k:Str}{m:M (Out×Ev)}{go:V (Out×Lv)}(h:aE oE m go):aE oE m (tP k m go):=fun s p=>by
 unfold Internal.tP
 induction tk k p.tO with
 |go r=>exact h s ⟨r,p.facts⟩
 |use h r=>
  induction h with
  |o o L s'=>exact .ok fun h=>⟨h.hd,h.tl⟩
  |x e s'=>exact .ct fun h=>⟨h.hd,h.tl⟩
  |_=>exact .stuck
noncomputable def lN {α:Type}(k:Kd)(m:V α):V α:=fun s p=>
 if k=.h then (match s.self with
  |some v=>(match m (dJ 0 s) p with
   |.ok a s' p'=>(match s'.self with
    |some v'=>(match v'.ep with
     |0=>.ok a (dJ v.ep s') p'
     |_=>.stuck)
    |none=>.stuck)
   |_=>.stuck)
  |none=>.stuck)
 else m s p
noncomputable def rp (m:V (T×Kd)):V (T×Kd):=fun s p=>match m s p with
 |.ct e s' p'=>.ok (.str e,.val) s' p'
 |.ok (t,k) s' p'=>if k=.h then .stuck else .ok (t,.val) s' p'
 |.stuck=>.stuck
theorem aE.ba {α:Type}{k:Kd}{m:M α}{v:V α}(h:aE id m v):aE id (ba k m) (lN k v):=fun s p=>by
 unfold Internal.ba lN;by_cases hk:k=.h
 ·rw [if_pos hk,if_pos hk]
  induction s.self with
  |none=>exact .stuck
  |some x=>
   dsimp only;have q:=h (dJ 0 s) p
   induction hv:v (dJ 0 s) p with
   |stuck=>exact .stuck
   |ct e s' p'=>exact .stuck
   |ok a s' p'=>
    rw [hv] at q
    cases q with
    |ok q=>
     dsimp only
     induction hs:s'.self with
     |none=>exact .stuck
     |some x'=>
      dsimp only
      induction he:x'.ep with
      |zero=>exact .ok fun h=>⟨by rw [(q h).1];dsimp only;rw [hs];dsimp only;rw [he];rfl,(q h).2⟩
      |succ n=>exact .stuck
 ·rw [if_neg hk,if_neg hk];exact h s p
theorem aE.IB {m:M (T×Kd)}{v:V (T×Kd)}(h:aE id m v):aE id (dA m) (rp v):=fun s p=>by
 unfold dA rp;have q:=h s p
 induction hv:v s p with
 |stuck=>exact .stuck
 |ct e s' p'=>
  rw [hv] at q
  cases q with
  |ct q=>exact .ok fun h=>⟨by rw [(q h).1];rfl,(q h).2⟩
 |ok a s' p'=>
  rw [hv] at q;obtain ⟨t,k⟩:=a
  cases q with
  |ok q=>
   dsimp only;by_cases hk:k=.h
   ·rw [if_pos hk];exact .stuck
   ·rw [if_neg hk];exact .ok fun h=>⟨by rw [(q h).1];exact if_neg hk,(q h).2⟩
abbrev VC:=Str→List T→V (T×Kd)
noncomputable def gq (t:T×Kd):V (T×Kd):=if t.2=.h then aw else pure t
theorem aE.solid (t:T×Kd):aE id (solid t) (gq t):=.ite (.stuck _) (.pure id t)
noncomputable def IC:List (V (T×Kd))→V (List (T×Kd))
 |[]=>pure []
 |v::vs=>v>>=fun t=>gq t>>=fun t=>IC vs>>=fun ts=>pure (t::ts)
noncomputable def NT:List (V Str)→List (V (T×Kd))→V (List (Str×T))
 |[],[]=>pure []
 |k::ks,v::vs=>k>>=fun x=>v>>=fun t=>gq t>>=fun t=>NT ks vs>>=fun es=>pure ((x,t.1)::es)
 |_,_=>aw
noncomputable def vP (L:Ev)(e:Expr)(whole:V (T×Kd)):V T:=match optName e with
 |some x=>V.of (ay (peek L x))
 |none=>whole>>=fun t=>pure t.1
noncomputable def vC (L:Ev)(o:CmpOp)(e:Expr)(whole:V (T×Kd)):V T:=
 if o=.In then vP L e whole else whole>>=fun t=>gq t>>=fun t=>pure t.1
noncomputable def GN (W:VC)(f:Str)(ts:List (T×Kd)):V (T×Kd):=
 if f="Null"∨f="Vector" then V.of (zN f ts)
 else if f∈builtins then op f (dX f (ts.map (·.1)))
 else W f (ts.map (·.1))
noncomputable def vU (W:VC)(L:Ev)(f:Str)(as:List Expr)(vs:List (V (T×Kd))):V (T×Kd):=
 if f="len" then (match as,vs with
  |[a],[va]=>vP L a va>>=fun t=>V.of (o5 t)>>=fun t=>pure (t,.val)
  |_,_=>aw)
 else if f="isinstance" then (match as,vs with
  |[a,b],[va,_]=>(match nameOf b with
   |some c=>vP L a va>>=fun t=>V.of (nj c t)
   |none=>aw)
  |_,_=>aw)
 else IC vs>>=fun ts=>GN W f ts
noncomputable def BQ:List Comprehension→Str×List Expr
 |[⟨t,_,ifs,_⟩]=>((optName t).getD "",ifs)
 |_=>("",[])
noncomputable def L6 (L:Ev)(sc:Scope)(gs:List Comprehension)(t:T):Ev:=inner L sc (BQ gs).1 t
noncomputable def BR (G:Calls)(L:Ev)(sc:Scope)(gs:List Comprehension)(t:T):M Bool:=cE G (L6 L sc gs t) (BQ gs).2
noncomputable def BS (G:Calls)(L:Ev)(sc:Scope)(gs:List Comprehension)(e:Expr)(t:T):M (T×Kd):=ag G (L6 L sc gs t) e
noncomputable def cK (G:Calls)(L:Ev)(l:List T)(k:Kd):Expr→M (T×Kd)
 |.ListComp elt gs sc _=>jy l k (BR G L sc gs) (BS G L sc gs elt)
 |.DictComp e v gs sc _=>l9 l k (BR G L sc gs) (BS G L sc gs e) (BS G L sc gs v)
 |_=>stuck
mutual
noncomputable def vE (G:Calls)(W:VC)(L:Ev):Expr→V (T×Kd)
 |.BinOp l o r _=>vE G W L l>>=fun a=>vE G W L r>>=fun b=>op "+" (ay (dy o a.1 b.1))
 |.UnaryOp o x _=>(match o with
  |.USub=>vE G W L x>>=fun a=>V.of (Dg a)
  |_=>aw)
 |.IfExp t b o _=>vT G W L t (vE G W L t)>>=fun c=>if c=true then vE G W L b else vE G W L o
 |.Compare l ops rs _=>(match ops with
  |[o]=>(match rs with
   |[r]=>vE G W L l>>=fun a=>vC L o r (vE G W L r)>>=fun b=>op "c" (fi o a b>>=val)
   |_=>aw)
  |_=>aw)
 |.Call f as _ _=>(match f with
  |.Attribute o m _=>vE G W L o>>=fun v=>if G3 v.1 m=true then lN v.2 (ID G W L as)>>=fun ts=>op "." (iz v.1 m (ts.map (·.1))) else aw
  |.Name f _=>if gO as=true then (match as with
   |[a]=>(match a with
    |.Lambda _ b sc _=>if f="_law_kept" then rp (vE G W {loc:=inScope sc L.loc} b) else aw
    |_=>aw)
   |_=>aw) else vU W L f as (KX G W L as)
  |_=>aw)
 |.Attribute o a _=>vE G W L o>>=fun v=>V.of (gA v.1 a)
 |.Subscript v i _=>(match i with
  |.Slice lo hi _ _=>vE G W L v>>=fun t=>vB G W L lo>>=fun l=>vB G W L hi>>=fun h=>op ":" (ay (fD t.1 l h))
  |i=>vE G W L v>>=fun t=>lN t.2 (vE G W L i)>>=fun k=>op "i" (ie t.1 k.1))
 |.List es _=>ID G W L es>>=fun ts=>pure (.list (ts.map (·.1)),.own)
 |.Tuple es _ _=>ID G W L es>>=fun ts=>pure (.tup (ts.map (·.1)),.val)
 |.Dict ks vs _=>NT (NU G W L ks) (KX G W L vs)>>=fun es=>if (es.map (·.1)).Nodup then pure (.dict es,.own) else aw
 |.ListComp elt gs sc p=>(match gs with
  |[⟨.Name x q,it,ifs,a⟩]=>vE G W L it>>=fun s=>ro s.1>>=fun l=>op "[]" (cK G L l s.2 (.ListComp elt [⟨.Name x q,it,ifs,a⟩] sc p))
  |_=>aw)
 |.DictComp k v gs sc p=>(match gs with
  |[⟨.Name x q,it,ifs,a⟩]=>vE G W L it>>=fun s=>ro s.1>>=fun l=>op "[]" (cK G L l s.2 (.DictComp k v [⟨.Name x q,it,ifs,a⟩] sc p))
  |_=>aw)
 |.JoinedStr vs _=>vJ G W L vs Str.empty>>=fun x=>pure (.str x,.val)
 |.FormattedValue v _ _ _=>vE G W L v>>=fun t=>op "str" (zO t)
 |.Constant c x p=>V.of (ag G L (.Constant c x p))
 |.Name x p=>V.of (ag G L (.Name x p))
 |_=>aw
noncomputable def vT (G:Calls)(W:VC)(L:Ev):Expr→V (T×Kd)→V Bool
 |.UnaryOp .Not x _,_=>vT G W L x (vE G W L x)>>=fun b=>pure (!b)
 |.BoolOp .And vs _,_=>BU G W L vs
 |.BoolOp .Or vs _,_=>NV G W L vs
 |_,whole=>whole>>=fun t=>V.of (eI t)>>=fun b=>ix b
noncomputable def BU (G:Calls)(W:VC)(L:Ev):List Expr→V Bool
 |[]=>pure true
 |e::r=>vT G W L e (vE G W L e)>>=fun b=>if b=true then BU G W L r else pure false
noncomputable def NV (G:Calls)(W:VC)(L:Ev):List Expr→V Bool
 |[]=>pure false
 |e::r=>vT G W L e (vE G W L e)>>=fun b=>if b=true then pure true else NV G W L r
noncomputable def vB (G:Calls)(W:VC)(L:Ev):Option Expr→V (Option Nat)
 |none=>pure none
 |some e=>vE G W L e>>=fun t=>V.of (ay (m9 (some t.1)))
noncomputable def ID (G:Calls)(W:VC)(L:Ev):List Expr→V (List (T×Kd))
 |[]=>pure []
 |e::r=>vE G W L e>>=fun t=>gq t>>=fun t=>ID G W L r>>=fun ts=>pure (t::ts)
noncomputable def NU (G:Calls)(W:VC)(L:Ev):List (Option Expr)→List (V Str)
 |[]=>[]
 |k::ks=>vO G W L k::NU G W L ks
noncomputable def vO (G:Calls)(W:VC)(L:Ev):Option Expr→V Str
 |none=>aw
 |some e=>vE G W L e>>=fun t=>V.of (jF t)
noncomputable def KX (G:Calls)(W:VC)(L:Ev):List Expr→List (V (T×Kd))
 |[]=>[]
 |v::vs=>vE G W L v::KX G W L vs
noncomputable def vJ (G:Calls)(W:VC)(L:Ev):List Expr→Str→V Str
 |[],out=>pure out
 |e::r,out=>vE G W L e>>=fun t=>V.of (jF t)>>=fun x=>ix (decide ((out++x).length≤aq))>>=fun c=>if c=true then vJ G W L r (out++x) else aw
end
theorem BV {G:Calls}{L:Ev}{f:Str}{q p:Pos}{as:List Expr}{ks:List Keyword}(h:¬gO as=true):ag G L (.Call (.Name f q) as ks p)=gD G L f as (gP G L as):=by
 rcases as with _|⟨a,_|⟨b,r⟩⟩
 ·rfl
 ·cases a<;>first|rfl|exact absurd rfl h
 ·rfl
theorem KY {G:Calls}{W:VC}{L:Ev}{f:Str}{q p:Pos}{as:List Expr}{ks:List Keyword}(h:¬gO as=true):vE G W L (.Call (.Name f q) as ks p)=vU W L f as (KX G W L as):=by
 rcases as with _|⟨a,_|⟨b,r⟩⟩
 ·rfl
 ·cases a<;>first|rfl|exact absurd rfl h
 ·rfl
theorem IF {as:List Expr}(h:gO as=true):∃a b sc q,as=[.Lambda a b sc q]:=by
 rcases as with _|⟨a,_|⟨b,r⟩⟩
 ·exact d9 h
 ·cases a<;>first|exact ⟨_,_,_,_,rfl⟩|exact d9 h
 ·exact d9 h
inductive oy {α:Type}:List (M α)→List (V α)→Prop
 |nil:oy [] []
 |cons {m:M α} {v:V α} {ms:List (M α)} {vs:List (V α)} (h:aE id m v) (r:oy ms vs):oy (m::ms) (v::vs)
theorem oy.seq:∀{ms:List (M (T×Kd))} {vs:List (V (T×Kd))},oy ms vs→aE id (zP ms) (IC vs)
 |_,_,.nil=>.pure id []
 |_,_,.cons h r=>h.bind fun t=>(aE.solid t).bind fun t=>r.seq.bind fun ts=>.pure id (t::ts)
theorem oy.kv:∀{ks:List (M Str)} {kv:List (V Str)} {ms:List (M (T×Kd))} {vs:List (V (T×Kd))},oy ks kv→oy ms vs→aE id (Mp ks ms) (NT kv vs)
 |_,_,_,_,.nil,.nil=>.pure id []
 |_,_,_,_,.nil,.cons _ _=>.stuck _
 |_,_,_,_,.cons _ _,.nil=>.stuck _
 |_,_,_,_,.cons hk rk,.cons h r=>hk.bind fun x=>h.bind fun t=>(aE.solid t).bind fun t=>(rk.kv r).bind fun es=>.pure id ((x,t.1)::es)
theorem aE.P {L:Ev}{e:Expr}{m:M (T×Kd)}{v:V (T×Kd)}(h:aE id m v):aE id (gC L e m) (vP L e v):=by
 unfold gC vP
 induction optName e with
 |some x=>exact .of _
 |none=>exact h.bind fun t=>.pure id t.1
theorem aE.C {L:Ev}{o:CmpOp}{e:Expr}{m:M (T×Kd)}{v:V (T×Kd)}(h:aE id m v):aE id (ig L o e m) (vC L o e v):=
 .ite h.P (h.bind fun t=>(aE.solid t).bind fun t=>.pure id t.1)
section
variable {G:Calls}{W:VC}(HG:∀f as,aE id (G f as) (W f as))(L:Ev)
include HG
theorem aE.call (f:Str)(ts:List (T×Kd)):aE id (l8 G f ts) (GN W f ts):=
 .ite (.of _) (.ite (.op _ _) (HG f _))
theorem aE.shape (f:Str)(as:List Expr){ms:List (M (T×Kd))}{vs:List (V (T×Kd))}(h:oy ms vs):aE id (gD G L f as ms) (vU W L f as vs):=by
 refine .ite ?_ (.ite ?_ (h.seq.bind fun ts=>.call HG f ts))
 ·rcases as with _|⟨a,_|⟨b,r⟩⟩
  ·exact .stuck _
  ·cases h with
   |nil=>exact .stuck _
   |cons h r=>
    induction r with
    |nil=>exact h.P.bind fun t=>(aE.of (o5 t)).bind fun t=>.pure id (t,Kd.val)
    |cons _ _=>exact .stuck _
  ·exact .stuck _
 ·rcases as with _|⟨a,_|⟨b,_|⟨c,r⟩⟩⟩
  ·exact .stuck _
  ·exact .stuck _
  ·cases h with
   |nil=>exact .stuck _
   |cons h r=>
    cases r with
    |nil=>exact .stuck _
    |cons _ r=>
     induction r with
     |nil=>
      show aE id (match nameOf b with|some c=>gC L a _>>=fun t=>nj c t|none=>Internal.stuck) (match nameOf b with|some c=>vP L a _>>=fun t=>V.of (nj c t)|none=>aw)
      induction nameOf b with
      |none=>exact .stuck _
      |some c=>exact h.P.bind fun t=>.of _
     |cons _ _=>exact .stuck _
  ·exact .stuck _
omit HG
theorem aE.xr {m:M (T×Kd)}{v:V (T×Kd)}(h:aE id m v):aE id (m>>=fun t=>eI t) (v>>=fun t=>V.of (eI t)>>=fun b=>Internal.ix b):=h.bind fun t=>by
 have e:eI t=(eI t>>=fun b=>(Pure.pure b:M Bool)):=by
  funext s;show _=M.bind _ _ s;unfold M.bind;induction eI t s<;>rfl
 exact (congrArg (fun q=>aE id q (V.of (eI t)>>=fun b=>Internal.ix b)) e).mpr ((aE.of (eI t)).bind fun b=>.ix b)
end
noncomputable def KZ:Expr→Option Expr
 |.Lambda _ b _ _=>some b
 |_=>none
noncomputable def PE:Expr→Option (Option Expr×Option Expr)
 |.Slice lo hi _ _=>some (lo,hi)
 |_=>none
noncomputable def K0:Expr→Option Expr
 |.Attribute o _ _=>some o
 |_=>none
theorem bX {α:Type}{b:α}{o:Option α}{P:Prop}(h:o=none)(h2:o=some b):P:=nomatch h.symm.trans h2
section
variable (G:Calls)(W:VC)
structure EK (e:Expr):Prop where
 ev:∀L,aE id (ag G L e) (vE G W L e)
 t:∀L m v,aE id m v→aE id (bO G L e m) (vT G W L e v)
 lam:∀b,KZ e=some b→∀L,aE id (ag G L b) (vE G W L b)
 sl:∀q,PE e=some q→∀L,aE id (jz G L q.1) (vB G W L q.1)∧aE id (jz G L q.2) (vB G W L q.2)
 QW:∀o,K0 e=some o→∀L,aE id (ag G L o) (vE G W L o)
inductive rT:List Expr→Prop
 |nil:rT []
 |cons {e:Expr} {r:List Expr} (h:EK G W e) (t:rT r):rT (e::r)
inductive GK:List Comprehension→Prop
 |nil:GK []
 |cons {c:Comprehension} {r:List Comprehension} (h:EK G W c.iter):GK (c::r)
end
section
variable {G:Calls}{W:VC}
theorem EK.pl {e:Expr}(h:∀L,aE id (ag G L e) (vE G W L e))(h1:∀L m,bO G L e m=(m>>=fun t=>eI t))(h2:∀L v,vT G W L e v=(v>>=fun t=>V.of (eI t)>>=fun b=>ix b))
  (h3:KZ e=none) (h4:PE e=none) (h5:K0 e=none):EK G W e:=
 ⟨h,fun L m v hm=>(h1 L m).symm▸(h2 L v).symm▸hm.xr,fun b e=>bX h3 e,fun b e=>bX h4 e,fun b e=>bX h5 e⟩
theorem rT.es (L:Ev):∀{es:List Expr},rT G W es→aE id (br G L es) (ID G W L es)
 |_,.nil=>.pure id []
 |_,.cons h r=>(h.ev L).bind fun t=>(aE.solid t).bind fun _=>(r.es L).bind fun _=>.pure id _
theorem rT.vs (L:Ev):∀{es:List Expr},rT G W es→oy (gP G L es) (KX G W L es)
 |_,.nil=>.nil
 |_,.cons h r=>.cons (h.ev L) (r.vs L)
theorem rT.and (L:Ev):∀{es:List Expr},rT G W es→aE id (evalAnd G L es) (BU G W L es)
 |_,.nil=>.pure id true
 |_,.cons h r=>(h.t L _ _ (h.ev L)).bind fun _=>.ite (r.and L) (.pure id false)
theorem rT.or (L:Ev):∀{es:List Expr},rT G W es→aE id (evalOr G L es) (NV G W L es)
 |_,.nil=>.pure id false
 |_,.cons h r=>(h.t L _ _ (h.ev L)).bind fun _=>.ite (.pure id true) (r.or L)
theorem aE.join {L:Ev}{r:List Expr}{out:Str}(h:aE id (fE G L r out) (vJ G W L r out)):aE id (if out.length≤aq then fE G L r out else Internal.stuck) (Internal.ix (decide (out.length≤aq))>>=fun c=>if c=true then vJ G W L r out else aw):=by
 refine (congrArg (fun q=>aE id q _) ?_).mpr (aE.bind (aE.ix (decide (out.length≤aq))) (k:=fun c=>if c=true then fE G L r out else Internal.stuck) fun c=>.ite h (.stuck _));show _=if decide (out.length≤aq)=true then fE G L r out else Internal.stuck
 by_cases h:out.length≤aq
 ·rw [if_pos h,if_pos (decide_eq_true h)]
 ·rw [if_neg h,if_neg (fun q=>h (of_decide_eq_true q))]
theorem rT.j (L:Ev):∀{es:List Expr} (out:Str),rT G W es→aE id (fE G L es out) (vJ G W L es out)
 |_,out,.nil=>.pure id out
 |_,out,.cons h r=>(h.ev L).bind fun t=>(aE.of (jF t)).bind fun x=>.join (r.j L (out++x))
theorem EK.cmp {l:Expr}(h:EK G W l)(ops:List CmpOp){rs:List Expr}(h2:rT G W rs)(p:Pos)(L:Ev):aE id (ag G L (.Compare l ops rs p)) (vE G W L (.Compare l ops rs p)):=by
 rcases ops with _|⟨o,_|⟨_,_⟩⟩
 ·exact .stuck _
 ·induction h2 with
  |nil=>exact .stuck _
  |cons h2 r=>
   induction r with
   |nil=>exact (h.ev L).bind fun a=>(aE.C (h2.ev L)).bind fun b=>.op "c" _
   |cons _ _=>exact .stuck _
 ·exact .stuck _
theorem GK.l {gs:List Comprehension}(h:GK G W gs)(elt:Expr)(sc:Scope)(p:Pos)(L:Ev):aE id (ag G L (.ListComp elt gs sc p)) (vE G W L (.ListComp elt gs sc p)):=by
 induction h with
 |nil=>exact .stuck _
 |@cons c r h=>
  obtain ⟨t,it,ifs,a⟩:=c
  cases r with
  |nil=>
   cases t with
   |Name x q=>exact (h.ev L).bind fun s=>(aE.ro s.1).bind fun l=>.op "[]" _
   |_=>exact .stuck _
  |cons _ _=>cases t<;>exact .stuck _
theorem GK.d {gs:List Comprehension}(h:GK G W gs)(k v:Expr)(sc:Scope)(p:Pos)(L:Ev):aE id (ag G L (.DictComp k v gs sc p)) (vE G W L (.DictComp k v gs sc p)):=by
 induction h with
 |nil=>exact .stuck _
 |@cons c r h=>
  obtain ⟨t,it,ifs,a⟩:=c
  cases r with
  |nil=>
   cases t with
   |Name x q=>exact (h.ev L).bind fun s=>(aE.ro s.1).bind fun l=>.op "[]" _
   |_=>exact .stuck _
  |cons _ _=>cases t<;>exact .stuck _
theorem EK.sub {v i:Expr}(h:EK G W v)(h2:EK G W i)(p:Pos)(L:Ev):aE id (ag G L (.Subscript v i p)) (vE G W L (.Subscript v i p)):=by
 cases i with
 |Slice lo hi st q=>exact (h.ev L).bind fun t=>(h2.sl (lo,hi) rfl L).1.bind fun l=>(h2.sl (lo,hi) rfl L).2.bind fun x=>.op ":" _
 |_=>exact (h.ev L).bind fun t=>(h2.ev L).ba.bind fun k=>.op "i" _
theorem EK.un {x:Expr}(h:EK G W x)(o:UnaryOp)(p:Pos):EK G W (.UnaryOp o x p):=by
 induction o with
 |USub=>exact .pl (fun L=>(h.ev L).bind fun a=>.of _) (fun _ _=>rfl) (fun _ _=>rfl) rfl rfl rfl
 |Not=>exact ⟨fun L=>.stuck _,fun L m v _=>(h.t L _ _ (h.ev L)).bind fun b=>.pure id _,fun _ e=>bX rfl e,fun _ e=>bX rfl e,fun _ e=>bX rfl e⟩
 |_=>exact .pl (fun L=>.stuck _) (fun _ _=>rfl) (fun _ _=>rfl) rfl rfl rfl
theorem rT.bool {es:List Expr}(h:rT G W es)(o:BoolOp)(p:Pos):EK G W (.BoolOp o es p):=by
 induction o with
 |And=>exact ⟨fun L=>.stuck _,fun L m v _=>h.and L,fun _ e=>bX rfl e,fun _ e=>bX rfl e,fun _ e=>bX rfl e⟩
 |Or=>exact ⟨fun L=>.stuck _,fun L m v _=>h.or L,fun _ e=>bX rfl e,fun _ e=>bX rfl e,fun _ e=>bX rfl e⟩
variable (HG:∀f as,aE id (G f as) (W f as))
include HG
theorem EK.call {f:Expr}(h:EK G W f){as:List Expr}(h2:rT G W as)(ks:List Keyword)(p:Pos)(L:Ev):aE id (ag G L (.Call f as ks p)) (vE G W L (.Call f as ks p)):=by
 cases f with
 |Attribute o m q=>exact (h.QW o rfl L).bind fun v=>.ite ((h2.es L).ba.bind fun ts=>.op "." _) (.stuck _)
 |Name f q=>
  by_cases hl:gO as=true
  ·obtain ⟨a,b,sc,q,rfl⟩:=IF hl
   cases h2 with
   |cons h2 _=>
    show aE id (if f="_law_kept" then dA (ag G {loc:=inScope sc L.loc} b) else Internal.stuck) (if f="_law_kept" then rp (vE G W {loc:=inScope sc L.loc} b) else aw);exact .ite (h2.lam b rfl _).IB (.stuck _)
  ·rw [BV hl,KY hl];exact .shape HG L f as (h2.vs L)
 |_=>exact .stuck _
mutual
theorem ek:∀e:Expr,EK G W e
 |.BinOp l _ r _=>.pl (fun L=>((ek l).ev L).bind fun _=>((ek r).ev L).bind fun _=>.op "+" _) (fun _ _=>rfl) (fun _ _=>rfl) rfl rfl rfl
 |.UnaryOp o x p=>(ek x).un o p
 |.BoolOp o es p=>(BW es).bool o p
 |.IfExp t b o _=>.pl (fun L=>((ek t).t L _ _ ((ek t).ev L)).bind fun _=>.ite ((ek b).ev L) ((ek o).ev L)) (fun _ _=>rfl) (fun _ _=>rfl) rfl rfl rfl
 |.Compare l ops rs p=>.pl (fun L=>(ek l).cmp ops (BW rs) p L) (fun _ _=>rfl) (fun _ _=>rfl) rfl rfl rfl
 |.Call f as ks p=>.pl (fun L=>(ek f).call HG (BW as) ks p L) (fun _ _=>rfl) (fun _ _=>rfl) rfl rfl rfl
 |.Attribute o _ _=>⟨fun L=>((ek o).ev L).bind fun _=>.of _,fun _ _ _ h=>h.xr,fun _ e=>bX rfl e,fun _ e=>bX rfl e,fun _ e L=>Option.some.inj e▸(ek o).ev L⟩
 |.Subscript v i p=>.pl (fun L=>(ek v).sub (ek i) p L) (fun _ _=>rfl) (fun _ _=>rfl) rfl rfl rfl
 |.List es _=>.pl (fun L=>((BW es).es L).bind fun _=>.pure id _) (fun _ _=>rfl) (fun _ _=>rfl) rfl rfl rfl
 |.Tuple es _ _=>.pl (fun L=>((BW es).es L).bind fun _=>.pure id _) (fun _ _=>rfl) (fun _ _=>rfl) rfl rfl rfl
 |.Dict ks vs _=>.pl (fun L=>((K1 ks L).kv ((BW vs).vs L)).bind fun _=>.ite (.pure id _) (.stuck _)) (fun _ _=>rfl) (fun _ _=>rfl) rfl rfl rfl
 |.ListComp elt gs sc p=>.pl (fun L=>(PF gs).l elt sc p L) (fun _ _=>rfl) (fun _ _=>rfl) rfl rfl rfl
 |.DictComp k v gs sc p=>.pl (fun L=>(PF gs).d k v sc p L) (fun _ _=>rfl) (fun _ _=>rfl) rfl rfl rfl
 |.JoinedStr vs _=>.pl (fun L=>((BW vs).j L Str.empty).bind fun _=>.pure id _) (fun _ _=>rfl) (fun _ _=>rfl) rfl rfl rfl
 |.FormattedValue v _ _ _=>.pl (fun L=>((ek v).ev L).bind fun _=>.op "str" _) (fun _ _=>rfl) (fun _ _=>rfl) rfl rfl rfl
 |.Constant _ _ _=>.pl (fun _=>.of _) (fun _ _=>rfl) (fun _ _=>rfl) rfl rfl rfl
 |.Name _ _=>.pl (fun _=>.of _) (fun _ _=>rfl) (fun _ _=>rfl) rfl rfl rfl
 |.Lambda _ b _ _=>⟨fun _=>.stuck _,fun _ _ _ h=>h.xr,fun _ e L=>Option.some.inj e▸(ek b).ev L,fun _ e=>bX rfl e,fun _ e=>bX rfl e⟩
 |.Slice lo hi _ _=>⟨fun _=>.stuck _,fun _ _ _ h=>h.xr,fun _ e=>bX rfl e,fun _ e L=>Option.some.inj e▸⟨(NW lo L).1,(NW hi L).1⟩,fun _ e=>bX rfl e⟩
 |.NamedExpr _ _ _=>.pl (fun _=>.stuck _) (fun _ _=>rfl) (fun _ _=>rfl) rfl rfl rfl
 |.Set _ _ _=>.pl (fun _=>.stuck _) (fun _ _=>rfl) (fun _ _=>rfl) rfl rfl rfl
 |.SetComp _ _ _ _=>.pl (fun _=>.stuck _) (fun _ _=>rfl) (fun _ _=>rfl) rfl rfl rfl
 |.GeneratorExp _ _ _ _=>.pl (fun _=>.stuck _) (fun _ _=>rfl) (fun _ _=>rfl) rfl rfl rfl
 |.Await _ _=>.pl (fun _=>.stuck _) (fun _ _=>rfl) (fun _ _=>rfl) rfl rfl rfl
 |.Yield _ _=>.pl (fun _=>.stuck _) (fun _ _=>rfl) (fun _ _=>rfl) rfl rfl rfl
 |.YieldFrom _ _=>.pl (fun _=>.stuck _) (fun _ _=>rfl) (fun _ _=>rfl) rfl rfl rfl
 |.Starred _ _=>.pl (fun _=>.stuck _) (fun _ _=>rfl) (fun _ _=>rfl) rfl rfl rfl
theorem BW:∀es:List Expr,rT G W es
 |[]=>.nil
 |e::r=>.cons (ek e) (BW r)
theorem NW:∀(o:Option Expr) (L:Ev),aE id (jz G L o) (vB G W L o)∧aE id (F3 G L o) (vO G W L o)
 |none,_=>⟨.pure id none,.stuck _⟩
 |some e,L=>⟨((ek e).ev L).bind fun _=>.of _,((ek e).ev L).bind fun _=>.of _⟩
theorem K1:∀(os:List (Option Expr)) (L:Ev),oy (uE G L os) (NU G W L os)
 |[],_=>.nil
 |o::r,L=>.cons (NW o L).2 (K1 r L)
theorem QX:∀c:Comprehension,EK G W c.iter
 |⟨_,it,_,_⟩=>ek it
theorem PF:∀gs:List Comprehension,GK G W gs
 |[]=>.nil
 |c::_=>.cons (QX c)
end
end
noncomputable def xt (L:Lv)(x:Str)(t:T×Kd):V Lv:=fun s p=>
 if L.cS&&(x="row":Bool) then
  (match t with
   |(.list ts,.own)=>(match intsOf ts with
    |some r=>if s.row.isNone∧r.length≤aq then .ok (L.ax x .row) {s with row:=some r} p else .stuck
    |none=>.stuck)
   |_=>.stuck)
 else if L.cS&&(x="v":Bool) then
  (match t with
   |(.vec k ah .none,.own)=>if s.self.isNone then .ok (L.ax x .self) {s with self:=some ⟨k,ah,none,0⟩} p else .stuck
   |(.vec k ah .none,.bg)=>if s.self.isNone then .ok (L.ax x .self) {s with self:=some ⟨k,ah,none,0⟩} p else .stuck
   |(.null,_)=>.ok (L.ax x .null) s p
   |_=>.stuck)
 else if t.2≠.val∧x∈L.mv then .ok (L.gQ x t.1 t.2) s p
 else .ok (L.ax x t.1) s p
theorem cy.ite {α β:Type}{f:β→α}{c:Prop}[Decidable c]{R R':Res α}{P:Prop}{v v':VR β}(h:cy f R P v)(h2:cy f R' P v'):cy f (if c then R else R') P (if c then v else v'):=by
 by_cases hc:c
 ·rw [if_pos hc,if_pos hc];exact h
 ·rw [if_neg hc,if_neg hc];exact h2
theorem cy.at_ {L:Lv}{E:Ev}{s:Sg}{p:Tp}(e:L.ev=E):cy Lv.ev (.ok E s) (AllP p.facts) (.ok L s p):=.ok fun h=>⟨by rw [e],h⟩
theorem cy.K2 {α β:Type}{f:β→α}{c:Prop}[Decidable c]{R R':Res α}{P:Prop}{v v':V β}{s:Sg}{p:Tp}(h:cy f R P (v s p))(h2:cy f R' P (v' s p)):cy f (if c then R else R') P ((if c then v else v') s p):=by
 by_cases hc:c
 ·rw [if_pos hc,if_pos hc];exact h
 ·rw [if_neg hc,if_neg hc];exact h2
theorem tR (L:Lv)(x:Str)(t:T×Kd)(s:Sg)(p:Tp):cy Lv.ev ((match t with
   |(.list ts,.own)=>(match intsOf ts with
    |some r=>if s.row.isNone∧r.length≤aq then .ok (L.ev.ax x .row) {s with row:=some r} else .stuck
    |none=>.stuck)
   |_=>.stuck:Res Ev)) (AllP p.facts) (match t with
   |(.list ts,.own)=>(match intsOf ts with
    |some r=>if s.row.isNone∧r.length≤aq then .ok (L.ax x .row) {s with row:=some r} p else .stuck
    |none=>.stuck)
   |_=>.stuck:VR Lv):=by
 obtain ⟨t,k⟩:=t
 cases t with
 |list ts=>
  induction k with
  |own=>
   dsimp only
   induction intsOf ts with
   |none=>exact .stuck
   |some r=>exact .ite (.at_ (L.cj x .row)) .stuck
  |_=>exact .stuck
 |_=>exact .stuck
theorem yN (L:Lv)(x:Str)(t:T×Kd)(s:Sg)(p:Tp):cy Lv.ev ((match t with
   |(.vec k ah .none,.own)=>if s.self.isNone then .ok (L.ev.ax x .self) {s with self:=some ⟨k,ah,none,0⟩} else .stuck
   |(.vec k ah .none,.bg)=>if s.self.isNone then .ok (L.ev.ax x .self) {s with self:=some ⟨k,ah,none,0⟩} else .stuck
   |(.null,_)=>.ok (L.ev.ax x .null) s
   |_=>.stuck:Res Ev)) (AllP p.facts) (match t with
   |(.vec k ah .none,.own)=>if s.self.isNone then .ok (L.ax x .self) {s with self:=some ⟨k,ah,none,0⟩} p else .stuck
   |(.vec k ah .none,.bg)=>if s.self.isNone then .ok (L.ax x .self) {s with self:=some ⟨k,ah,none,0⟩} p else .stuck
   |(.null,_)=>.ok (L.ax x .null) s p
   |_=>.stuck:VR Lv):=by
 obtain ⟨t,k⟩:=t
 cases t with
 |vec kk ah a=>
  cases a with
  |none=>
   induction k with
   |own=>exact .ite (.at_ (L.cj x .self)) .stuck
   |bg=>exact .ite (.at_ (L.cj x .self)) .stuck
   |_=>exact .stuck
  |_=>exact .stuck
 |null=>exact .at_ (L.cj x .null)
 |_=>exact .stuck
theorem aE.xt (L:Lv)(x:Str)(t:T×Kd):aE Lv.ev (bindM L.ev x t) (xt L x t):=fun s p=>
 .ite (tR L x t s p) (.ite (yN L x t s p) (.ite (.at_ (L.vR x t.1 t.2)) (.at_ (L.cj x t.1))))
noncomputable def K3 (L:Lv)(x a:Str)(t:T):T→V Lv
 |.vec k ah _=>if a="attrs" then pure (L.bL x (.vec k ah t)) else aw
 |_=>aw
noncomputable def vV (L:Lv)(t:T×Kd):V Lv:=fun s p=>match s.self with
 |some v=>(match t with
  |(.none,_)=>.ok L (bj s v none) p
  |(.dict es,.own)=>.ok L (bj s v (some es)) p
  |_=>.stuck)
 |none=>.stuck
noncomputable def stLoc (L:Lv)(a:Str)(t:T×Kd):T→V Lv
 |.self=>if a="attrs" then vV L t else aw
 |.vec _ _ _=>if a="shared"∧j6 t.1=true then pure L else aw
 |_=>aw
noncomputable def oz (L:Lv)(x a:Str)(t:T×Kd):V Lv:=match L.own.lookup x with
 |some q=>K3 L x a t.1 q.1
 |none=>match jC L.loc x with
  |some u=>stLoc L a t u
  |none=>aw
theorem aE.oz (L:Lv)(x a:Str)(t:T×Kd):aE Lv.ev (eu L.ev x a t) (oz L x a t):=fun s p=>by
 unfold eu Internal.oz;show cy _ (match L.own.lookup x with|some (.vec k ah _,_)=>_|some _=>_|none=>match jC L.loc x with|some .self=>_|some (.vec ..)=>_|_=>_) _ _
 induction L.own.lookup x with
 |some q=>
  obtain ⟨u,kd⟩:=q
  cases u with
  |vec k ah _=>exact .K2 (c:=a="attrs") (v:=Pure.pure (L.bL x (.vec k ah t.1))) (v':=aw) (.at_ rfl) .stuck
  |_=>exact .stuck
 |none=>
  dsimp only
  cases jC L.loc x with
  |none=>exact .stuck
  |some u=>
   cases u with
   |vec k ah _=>exact .K2 (c:=a="shared"∧j6 t.1=true) (v:=Pure.pure L) (v':=aw) (.at_ rfl) .stuck
   |self=>
    show cy _ (match s.self with|some v=>_|none=>_) _ ((if a="attrs" then vV L t else aw) s p);by_cases ha:a="attrs"
    ·rw [if_pos ha];unfold vV
     induction s.self with
     |none=>exact .stuck
     |some v=>
      dsimp only;rw [if_pos ha];obtain ⟨t,kd⟩:=t
      cases t with
      |none=>exact .at_ rfl
      |dict es=>
       induction kd with
       |own=>exact .at_ rfl
       |_=>exact .stuck
      |_=>exact .stuck
    ·rw [if_neg ha];exact .stuck
   |_=>exact .stuck
noncomputable def BX (L:Lv):List Str→List T→Lv
 |x::xs,t::ts=>BX (L.ax x t) xs ts
 |_,_=>L
theorem xu:∀(xs:List Str) (ts:List T) (L:Lv),bindAll L.ev xs ts=(BX L xs ts).ev
 |[],_,L=>rfl
 |_::_,[],L=>rfl
 |x::xs,t::ts,L=>by
  show bindAll (L.ev.ax x t) xs ts=(BX (L.ax x t) xs ts).ev;rw [←Lv.cj,xu xs ts]
noncomputable def rq (L:Lv)(x:Str)(es:List (Str×T))(t:T):T→V Lv
 |.str k=>ix (decide (es.length < aq))>>=fun c=>if c=true then pure (L.bL x (.dict (dput es k t))) else aw
 |_=>aw
theorem aE.ask {α β:Type}{f:β→α}{c:Prop}[Decidable c]{m:M α}{v:V β}(h:aE f m v):aE f (if c then m else Internal.stuck) (Internal.ix (decide c)>>=fun b=>if b=true then v else aw):=by
 refine (congrArg (fun q=>aE f q _) ?_).mpr (aE.bind (aE.ix (decide c)) (k:=fun b=>if b=true then m else Internal.stuck) fun b=>.ite h (.stuck _));show _=if decide c=true then m else Internal.stuck
 by_cases h:c
 ·rw [if_pos h,if_pos (decide_eq_true h)]
 ·rw [if_neg h,if_neg (fun q=>h (of_decide_eq_true q))]
theorem aE.rq (L:Lv)(x:Str)(es:List (Str×T))(t k:T):aE Lv.ev (eJ L.ev x es k t) (rq L x es t k):=by
 cases k with
 |str k=>exact .ask (.pure Lv.ev (L.bL x _))
 |_=>exact .stuck _
noncomputable def GO (f:aM→List (Str×T)→V Lv):V Lv:=fun s p=>match s.self with
 |some v=>(match v.attrs with
  |some es=>f v es s p
  |none=>.stuck)
 |none=>.stuck
noncomputable def Jg (L:Lv)(v:aM)(es:List (Str×T)):V Lv:=fun s p=>.ok L (bj s v (some es)) p
noncomputable def rz (L:Lv)(t:T):T→V Lv
 |.str k=>GO fun v es=>ix (decide (es.length < aq))>>=fun c=>if c=true then Jg L v (dput es k t) else aw
 |_=>aw
noncomputable def EL (L:Lv):T→V Lv
 |.str k=>GO fun v es=>ix (es.lookup k).isSome>>=fun c=>if c=true then Jg L v (cD es k) else aw
 |_=>aw
theorem aE.Jg (L:Lv)(v:aM)(es:List (Str×T)):aE Lv.ev (fun s=>.ok L.ev (bj s v (some es))) (Jg L v es):=fun _ _=>.at_ rfl
theorem BY {α:Type}{c:Prop}[Decidable c]{m n:M α}{s:Sg}:(if c then m else n) s=if c then m s else n s:=by
 by_cases h:c
 ·rw [if_pos h,if_pos h]
 ·rw [if_neg h,if_neg h]
theorem aE.rz (L:Lv)(k t:T):aE Lv.ev (eF L.ev k t) (rz L t k):=fun s p=>by
 cases k with
 |str k=>
  show cy _ (match s.self with|some v=>(match v.attrs with|some es=>if es.length < aq then .ok L.ev (bj s v (some (dput es k t))) else .stuck|none=>.stuck)|none=>.stuck) _ (match s.self with|some v=>(match v.attrs with|some es=>_|none=>.stuck)|none=>.stuck)
  induction s.self with
  |none=>exact .stuck
  |some v=>
   dsimp only
   induction v.attrs with
   |none=>exact .stuck
   |some es=>
    have q:=aE.ask (c:=es.length < aq) (aE.Jg L v (dput es k t)) s p
    rwa [BY] at q
 |_=>exact .stuck
theorem aE.EL (L:Lv)(k:T):aE Lv.ev (j7 L.ev k) (EL L k):=fun s p=>by
 cases k with
 |str k=>
  show cy _ (match s.self with|some v=>(match v.attrs with|some es=>if (es.lookup k).isSome=true then .ok L.ev (bj s v (some (cD es k))) else .stuck|none=>.stuck)|none=>.stuck) _ (match s.self with|some v=>(match v.attrs with|some es=>_|none=>.stuck)|none=>.stuck)
  induction s.self with
  |none=>exact .stuck
  |some v=>
   dsimp only
   induction v.attrs with
   |none=>exact .stuck
   |some es=>
    have q:=aE.bind (aE.ix (es.lookup k).isSome) (k:=fun b=>if b=true then (fun s=>.ok L.ev (bj s v (some (cD es k)))) else Internal.stuck) (fun b=>.ite (aE.Jg L v (cD es k)) (.stuck _)) s p
    rwa [show ((Pure.pure (es.lookup k).isSome:M Bool)>>=fun b=>if b=true then (fun s=>Res.ok L.ev (bj s v (some (cD es k)))) else Internal.stuck) s=(if (es.lookup k).isSome=true then (fun s=>Res.ok L.ev (bj s v (some (cD es k)))) else Internal.stuck) s from rfl,BY] at q
 |_=>exact .stuck
noncomputable def K4 (G:Calls)(W:VC)(x m:Str)(as:List Expr)(L:Lv)(t:T):V (Out×Lv):=
 if nq t m=true then ID G W L.ev as>>=fun ts=>op "m" (ay (gh t m (ts.map (·.1)))>>=val)>>=fun t=>pure (.next,L.bL x t.1) else aw
noncomputable def K5 (L:Lv)(x k:Str)(ah:List T)(a:T):List T→V (Out×Lv)
 |[t]=>pure (.next,L.bL x (.vec k (ah++[t]) a))
 |_=>aw
noncomputable def NX (G:Calls)(W:VC)(x:Str)(as:List Expr)(L:Lv):T×Kd→V (Out×Lv)
 |(.vec k ah a,.bg)=>ix (decide (ah.length < aq))>>=fun c=>if c=true then ID G W L.ev as>>=fun ts=>K5 L x k ah a (ts.map (·.1)) else aw
 |_=>aw
noncomputable def vW (G:Calls)(W:VC)(L:Lv)(e:Expr):V (Out×Lv):=match C2 e with
 |.one x m as p=>(match (bA (.Tuple as 0 p) L).own.lookup x with
  |some q=>K4 G W x m as (bA (.Tuple as 0 p) L) q.1
  |none=>aw)
 |.two x a m as p=>(match (bA (.Tuple as 0 p) L).own.lookup x with
  |some q=>if a="items"∧m="append" then NX G W x as (bA (.Tuple as 0 p) L) q else aw
  |none=>aw)
 |.no=>vE G W (bA e L).ev e>>=fun _=>pure (.next,bA e L)
noncomputable def BZ (G:Calls)(W:VC)(L:Lv):Option Expr→V (Out×Lv)
 |none=>pure (.ret .none .val,L)
 |some e=>match optName e with
  |some x=>(match L.own.lookup x with
   |some q=>pure (.ret q.1 q.2,L)
   |none=>vE G W L.ev e>>=fun t=>pure (.ret t.1 t.2,L))
  |none=>vE G W (bA e L).ev e>>=fun t=>gq t>>=fun t=>pure (.ret t.1 t.2,bA e L)
noncomputable def NY (G:Calls)(W:VC)(x:Str)(v i:Expr)(L:Lv):T→V (Out×Lv)
 |.dict es=>vE G W L.ev v>>=fun t=>gq t>>=fun t=>vE G W L.ev i>>=fun k=>rq L x es t.1 k.1>>=fun L'=>pure (.next,L')
 |_=>aw
noncomputable def NZ (G:Calls)(W:VC)(v i:Expr)(L:Lv):T→V (Out×Lv)
 |.self=>vE G W L.ev v>>=fun t=>gq t>>=fun t=>V.of bK>>=fun _=>lN .h (vE G W L.ev i)>>=fun k=>rz L t.1 k.1>>=fun L'=>pure (.next,L')
 |_=>aw
noncomputable def N0 (L:Lv)(xs:List Str):T×Kd→V (Out×Lv)
 |(.tup ts,_)=>if ts.length=xs.length then pure (.next,BX L xs ts) else aw
 |_=>aw
noncomputable def B0 (G:Calls)(W:VC)(L:Lv)(v:Expr)(p:Pos):mE→V (Out×Lv)
 |.name x=>vE G W (bA v L).ev v>>=fun t=>gq t>>=fun t=>xt (bA v L) x t>>=fun L'=>pure (.next,L')
 |.attr x a=>if a="attrs"∨a="shared" then vE G W (bA v L).ev v>>=fun t=>gq t>>=fun t=>oz (bA v L) x a t>>=fun L'=>pure (.next,L') else aw
 |.key x i=>(match (bA (.Tuple [v,i] 0 p) L).own.lookup x with
  |some q=>NY G W x v i (bA (.Tuple [v,i] 0 p) L) q.1
  |none=>aw)
 |.uF x a i=>(match jC L.loc x with
  |some u=>if a="attrs" then NZ G W v i (bA (.Tuple [v,i] 0 p) L) u else aw
  |none=>aw)
 |.tup ns=>V.of (ay (bS ns))>>=fun xs=>vE G W (bA v L).ev v>>=fun t=>N0 (bA v L) xs t
 |.no=>aw
noncomputable def B1 (G:Calls)(W:VC)(L:Lv)(o:Operator)(v:Expr):Option Str→V (Out×Lv)
 |some x=>V.of (ay (jC L.loc x))>>=fun a=>vE G W (bA v L).ev v>>=fun b=>V.of (ay (o6 o a b.1))>>=fun c=>pure (.next,(bA v L).ax x c)
 |none=>aw
noncomputable def N1 (G:Calls)(W:VC)(i:Expr)(L:Lv):T→V (Out×Lv)
 |.self=>V.of bK>>=fun _=>lN .h (vE G W L.ev i)>>=fun k=>EL L k.1>>=fun L'=>pure (.next,L')
 |_=>aw
noncomputable def B2 (G:Calls)(W:VC)(L:Lv):mE→V (Out×Lv)
 |.uF x a i=>(match jC L.loc x with
  |some u=>if a="attrs" then N1 G W i (bA i L) u else aw
  |none=>aw)
 |_=>aw
noncomputable def rA (G:Calls)(W:VC)(L:Lv):Option (Str×Expr)→V (Out×Lv)
 |some (c,e)=>if c="Refusal" then vE G W (bA e L).ev e>>=fun t=>V.of (jF t)>>=fun x=>V.of (uD x) else aw
 |none=>aw
noncomputable def nextOf {ε:Type}:Out×ε→Out×ε
 |(.cont,L)=>(.next,L)
 |r=>r
noncomputable def IG (x:Str)(f:Lv→V (Out×Lv)):List T→Lv→V (Out×Lv)
 |[],L=>pure (.next,L)
 |t::r,L=>f (L.ax x t)>>=fun q=>match q with
  |(.ret t k,L')=>pure (.ret t k,L')
  |(_,L')=>IG x f r L'
noncomputable def rB (e:Expr)(t:Lv→V Bool)(f:Lv→V (Out×Lv)):Nat→Lv→V (Out×Lv)
 |0,_=>aw
 |n+1,L=>t (bA e L)>>=fun b=>if b=true then f (bA e L)>>=fun q=>match q with
   |(.ret t k,L')=>pure (.ret t k,L')
   |(_,L')=>rB e t f n L'
  else pure (.next,bA e L)
noncomputable def eh (G:Calls)(x:Str)(b:List Stmt)(l:List T)(L:Lv):M (Out×Ev):=forL x (fun L=>ak G b L) l L.ev
noncomputable def IH (G:Calls)(t:Expr)(b:List Stmt)(n:Nat)(L:Lv):M (Out×Ev):=iB t (fun L=>bO G L t (ag G L t)) (fun L=>ak G b L) n L.ev
mutual
noncomputable def vS (G:Calls)(W:VC):Stmt→Lv→V (Out×Lv)
 |.Expr e _,L=>vW G W L e
 |.Pass _,L=>pure (.next,L)
 |.Continue _,L=>pure (.cont,L)
 |.Return v _,L=>BZ G W L v
 |.Assign ts v p,L=>B0 G W L v p (k7 ts)
 |.AugAssign t o v _,L=>B1 G W L o v (optName t)
 |.Delete ts _,L=>B2 G W L (k7 ts)
 |.If t b o _,L=>vT G W (bA t L).ev t (vE G W (bA t L).ev t)>>=fun c=>if c=true then xv G W b (bA t L) else xv G W o (bA t L)
 |.For t it b e _,L=>(match optName t with
  |some x=>(match e with
   |[]=>vE G W (bA it L).ev it>>=fun s=>V.of (dO s.2)>>=fun _=>ro s.1>>=fun l=>tP "for" (eh G x b l (bA it L)) (IG x (fun L=>xv G W b L) l (bA it L))>>=fun r=>pure (nextOf r)
   |_=>aw)
  |none=>aw)
 |.While t b e _,L=>(match e with
  |[]=>tP "while" (IH G t b dK L) (rB t (fun L=>vT G W L.ev t (vE G W L.ev t)) (fun L=>xv G W b L) dK L)
  |_=>aw)
 |.Raise e c _,L=>rA G W L (gR e c)
 |_,_=>aw
noncomputable def xv (G:Calls)(W:VC):List Stmt→Lv→V (Out×Lv)
 |[],L=>pure (.next,L)
 |s::r,L=>vS G W s L>>=fun q=>match q with
  |(.next,L')=>xv G W r L'
  |o=>pure o
end
section
variable {G:Calls}{W:VC}
theorem aE.stI {α β:Type}{f:β→α}{c:Prop}[Decidable c]{m:M α}:aE f m (if c then aw else aw:V β):=by
 rw [ite_self];exact .stuck _
theorem aE.map {α β γ δ:Type}{f:β→α}{g:δ→γ}{m:M α}{v:V β}{h:α→γ}{h':β→δ}(q:aE f m v)(e:∀b,h (f b)=g (h' b)):aE g (m>>=fun a=>Pure.pure (h a)) (v>>=fun b=>Pure.pure (h' b)):=q.bind fun b=>by
 rw [e b];exact .pure g (h' b)
theorem aE.next {m:M Ev}{v:V Lv}(h:aE Lv.ev m v):aE oE (m>>=fun L=>Pure.pure (.next,L)) (v>>=fun L=>Pure.pure (.next,L)):=h.bind fun b=>.pure oE (.next,b)
theorem N2 {o:Option T}{γ:Type}{k:T→M γ}:((ay o>>=val)>>=fun t=>k t.1)=(ay o>>=k):=by
 induction o<;>rfl
variable (HG:∀f as,aE id (G f as) (W f as))
include HG
theorem aE.N3 (x m:Str)(as:List Expr)(L:Lv)(t:T):aE oE (if nq t m then do
   let ts ←br G L.ev as
   let t ←ay (gh t m (ts.map (·.1)))
   Pure.pure (Out.next,L.ev.bL x t) else Internal.stuck) (K4 G W x m as L t):=
 .ite (((BW HG as).es L.ev).bind fun ts=>(congrArg (fun q=>aE oE q _) (N2 (k:=fun t=>Pure.pure (Out.next,L.ev.bL x t)))).mp ((aE.op "m" _).bind fun t=>.pure oE (.next,L.bL x t.1))) (.stuck _)
theorem aE.nr (L:Lv)(e:Expr):aE oE (Internal.nr G L.ev e) (vW G W L e):=by
 unfold Internal.nr vW
 induction C2 e with
 |one x m as p=>
  dsimp only;rw [bM];show aE oE (match (bA (.Tuple as 0 p) L).own.lookup x with|some (t,_)=>_|none=>_) _
  induction (bA (.Tuple as 0 p) L).own.lookup x with
  |none=>exact .stuck _
  |some q=>exact .N3 HG x m as _ q.1
 |two x a m as p=>
  dsimp only;rw [bM];show aE oE (match (bA (.Tuple as 0 p) L).own.lookup x with|some (.vec k ah at',.bg)=>_|_=>_) _
  induction (bA (.Tuple as 0 p) L).own.lookup x with
  |none=>exact .stuck _
  |some q=>
   obtain ⟨t,kd⟩:=q
   cases t with
   |vec k ah at'=>
    induction kd with
    |bg=>
     show aE oE (if a="items"∧m="append"∧ah.length < aq then _ else _) (if a="items"∧m="append" then _ else _)
     have e:∀n:M (Out×Ev),(if a="items"∧m="append"∧ah.length < aq then n else Internal.stuck)=if a="items"∧m="append" then (if ah.length < aq then n else Internal.stuck) else Internal.stuck:=fun n=>by
      by_cases h:a="items"∧m="append"
      ·rw [if_pos h];by_cases h2:ah.length < aq
       ·rw [if_pos h2,if_pos ⟨h.1,h.2,h2⟩]
       ·rw [if_neg h2,if_neg fun q=>h2 q.2.2]
      ·rw [if_neg h,if_neg fun q=>h ⟨q.1,q.2.1⟩]
     rw [e];refine .ite (.ask (((BW HG as).es _).bind fun ts=>?_)) (.stuck _);show aE oE (match ts.map (·.1) with|[t]=>_|_=>_) (K5 _ x k ah at' (ts.map (·.1)));generalize List.map (fun x:T×Kd=>x.1) ts=l;rcases l with _|⟨u,_|⟨_,_⟩⟩
     ·exact .stuck _
     ·exact .pure oE (.next,(bA (.Tuple as 0 p) L).bL x _)
     ·exact .stuck _
    |_=>exact .stI (c:=a="items"∧m="append")
   |_=>exact .stI (c:=a="items"∧m="append")
 |no=>
  dsimp only;rw [bM];exact ((ek HG e).ev _).bind fun _=>.pure oE (.next,bA e L)
theorem aE.retS (L:Lv)(e:Option Expr):aE oE (Internal.retS G L.ev e) (BZ G W L e):=by
 induction e with
 |none=>exact .pure oE (.ret .none .val,L)
 |some e=>
  unfold Internal.retS BZ;dsimp only
  induction optName e with
  |some x=>
   dsimp only;show aE oE (match L.own.lookup x with|some (t,k)=>_|none=>_) _
   induction L.own.lookup x with
   |none=>exact ((ek HG e).ev _).bind fun t=>.pure oE (.ret t.1 t.2,L)
   |some q=>exact .pure oE (.ret q.1 q.2,L)
  |none=>
   dsimp only;rw [bM];exact ((ek HG e).ev _).bind fun t=>(aE.solid t).bind fun t=>.pure oE (.ret t.1 t.2,bA e L)
theorem aE.zR (L:Lv)(v:Expr)(p:Pos)(t:mE):aE oE (Internal.zR G L.ev v p t) (B0 G W L v p t):=by
 unfold Internal.zR B0
 induction t with
 |name x=>
  dsimp only;rw [bM];exact ((ek HG v).ev _).bind fun t=>(aE.solid t).bind fun t=>(aE.xt _ x t).next
 |attr x a=>
  dsimp only;rw [bM];exact .ite (((ek HG v).ev _).bind fun t=>(aE.solid t).bind fun t=>(aE.oz _ x a t).next) (.stuck _)
 |key x i=>
  dsimp only;rw [bM];show aE oE (match (bA (.Tuple [v,i] 0 p) L).own.lookup x with|some (.dict es,_)=>_|_=>_) _
  induction (bA (.Tuple [v,i] 0 p) L).own.lookup x with
  |none=>exact .stuck _
  |some q=>
   obtain ⟨t,kd⟩:=q
   cases t with
   |dict es=>exact ((ek HG v).ev _).bind fun t=>(aE.solid t).bind fun t=>((ek HG i).ev _).bind fun k=>(aE.rq _ x es t.1 k.1).next
   |_=>exact .stuck _
 |uF x a i=>
  dsimp only;rw [bM];show aE oE (match jC L.loc x with|some .self=>_|_=>_) _
  induction jC L.loc x with
  |none=>exact .stuck _
  |some q=>
   cases q with
   |self=>exact .ite (((ek HG v).ev _).bind fun t=>(aE.solid t).bind fun t=>(aE.of bK).bind fun _=>(((ek HG i).ev _).ba).bind fun k=>(aE.rz _ k.1 t.1).next) (.stuck _)
   |_=>exact .stI (c:=a="attrs")
 |tup ns=>
  dsimp only;rw [bM];refine (aE.of (ay (bS ns))).bind fun xs=>((ek HG v).ev _).bind fun t=>?_
  obtain ⟨t,kd⟩:=t
  cases t with
  |tup ts=>
   refine .ite ?_ (.stuck _);rw [id,xu];exact .pure oE (.next,BX (bA v L) xs ts)
  |_=>exact .stuck _
 |no=>exact .stuck _
theorem aE.zS (L:Lv)(o:Operator)(v:Expr)(x:Option Str):aE oE (Internal.zS G L.ev o v x) (B1 G W L o v x):=by
 induction x with
 |none=>exact .stuck _
 |some x=>
  unfold Internal.zS B1;dsimp only;rw [bM];refine (aE.of (ay (jC L.loc x))).bind fun a=>((ek HG v).ev _).bind fun b=>(aE.of (ay (o6 o a b.1))).bind fun c=>?_
  rw [id,←Lv.cj];exact .pure oE (.next,(bA v L).ax x c)
theorem aE.zT (L:Lv)(t:mE):aE oE (Internal.zT G L.ev t) (B2 G W L t):=by
 induction t with
 |uF x a i=>
  unfold Internal.zT B2;dsimp only;rw [bM];show aE oE (match jC L.loc x with|some .self=>_|_=>_) _
  induction jC L.loc x with
  |none=>exact .stuck _
  |some q=>
   cases q with
   |self=>exact .ite ((aE.of bK).bind fun _=>(((ek HG i).ev _).ba).bind fun k=>(aE.EL _ k.1).next) (.stuck _)
   |_=>exact .stI (c:=a="attrs")
 |_=>exact .stuck _
theorem aE.nt (L:Lv)(x:Option (Str×Expr)):aE oE (Internal.nt G L.ev x) (rA G W L x):=by
 induction x with
 |none=>exact .stuck _
 |some q=>
  obtain ⟨c,e⟩:=q;unfold Internal.nt rA;dsimp only;rw [bM];refine .ite (((ek HG e).ev _).bind fun t=>(aE.of (jF t)).bind fun x s p=>.ct fun h=>⟨rfl,h⟩) (.stuck _)
omit HG
theorem aE.Bv {x:Str}{f:Ev→M (Out×Ev)}{f':Lv→V (Out×Lv)}(hf:∀L:Lv,aE oE (f L.ev) (f' L)):∀(l:List T) (L:Lv),aE oE (forL x f l L.ev) (IG x f' l L)
 |[],L=>.pure oE (.next,L)
 |t::r,L=>by
  refine aE.bind (show aE oE (f (L.ev.ax x t)) (f' (L.ax x t)) from Lv.cj L x t▸hf _) fun q=>?_
  obtain ⟨o,L'⟩:=q
  induction o with
  |next=>exact aE.Bv hf r L'
  |cont=>exact aE.Bv hf r L'
  |ret t k=>exact .pure oE (.ret t k,L')
theorem aE.om {e:Expr}{t:Ev→M Bool}{t':Lv→V Bool}{f:Ev→M (Out×Ev)}{f':Lv→V (Out×Lv)}(ht:∀L:Lv,aE id (t L.ev) (t' L))(hf:∀L:Lv,aE oE (f L.ev) (f' L)):∀(n:Nat) (L:Lv),aE oE (iB e t f n L.ev) (rB e t' f' n L)
 |0,L=>.stuck _
 |n+1,L=>by
  have h1:aE id (t (settle e L.ev)) (t' (bA e L)):=bM e L▸ht _;have h2:aE oE (f (settle e L.ev)) (f' (bA e L)):=bM e L▸hf _;have h3:aE oE (Pure.pure (Out.next,settle e L.ev):M (Out×Ev)) (Pure.pure (Out.next,bA e L)):=bM e L▸aE.pure oE (Out.next,bA e L);refine aE.bind h1 fun b=>.ite (aE.bind h2 fun q=>?_) h3
  obtain ⟨o,L'⟩:=q
  induction o with
  |next=>exact aE.om ht hf n L'
  |cont=>exact aE.om ht hf n L'
  |ret t k=>exact .pure oE (.ret t k,L')
theorem aE.seq {m:M (Out×Ev)}{v:V (Out×Lv)}{k:Ev→M (Out×Ev)}{w:Lv→V (Out×Lv)}(h:aE oE m v)(hk:∀L:Lv,aE oE (k L.ev) (w L)):aE oE (m>>=fun q=>match q with|(.next,L')=>k L'|o=>Pure.pure o) (v>>=fun q=>match q with|(.next,L')=>w L'|o=>Pure.pure o):=h.bind fun q=>by
 obtain ⟨o,L'⟩:=q
 induction o with
 |next=>exact hk L'
 |cont=>exact .pure oE (.cont,L')
 |ret t kd=>exact .pure oE (.ret t kd,L')
theorem yO (q:Out×Lv):nextOf (oE q)=oE (nextOf q):=by
 obtain ⟨o,L⟩:=q;induction o<;>rfl
theorem EM {m:M (Out×Ev)}:(m>>=fun r=>match r with|(.cont,L')=>Pure.pure (.next,L')|r=>Pure.pure r)=(m>>=fun r=>Pure.pure (nextOf r)):=by
 refine congrArg (m>>=·) (funext fun r=>?_);obtain ⟨o,L⟩:=r;induction o<;>rfl
include HG
theorem aE.N4 (t it:Expr){b:List Stmt}(e:List Stmt)(p:Pos)(L:Lv)(hb:∀L:Lv,aE oE (ak G b L.ev) (xv G W b L)):aE oE (cn G (.For t it b e p) L.ev) (vS G W (.For t it b e p) L):=by
 show aE oE (match optName t with|some x=>_|none=>_) (match optName t with|some x=>_|none=>_)
 induction optName t with
 |none=>exact .stuck _
 |some x=>
  induction e with
  |cons _ _=>exact .stuck _
  |nil=>
   skip
   rw [bM];refine ((ek HG it).ev _).bind fun s=>(aE.of (dO s.2)).bind fun _=>(aE.ro s.1).bind fun l=>?_
   exact (congrArg (fun q=>aE oE q _) (EM (m:=eh G x b l (bA it L)))).mpr (.map (.tP (.Bv hb l _)) yO)
theorem aE.II (t:Expr){b:List Stmt}(e:List Stmt)(p:Pos)(L:Lv)(hb:∀L:Lv,aE oE (ak G b L.ev) (xv G W b L)):aE oE (cn G (.While t b e p) L.ev) (vS G W (.While t b e p) L):=by
 induction e with
 |cons _ _=>exact .stuck _
 |nil=>
  show aE oE (iB t (fun L=>bO G L t (ag G L t)) (fun L=>ak G b L) dK L.ev) (Internal.tP "while" (IH G t b dK L) (rB t (fun L=>vT G W L.ev t (vE G W L.ev t)) (fun L=>xv G W b L) dK L));exact .tP (.om (fun L=>(ek HG t).t _ _ _ ((ek HG t).ev _)) hb dK L)
theorem aE.QY (t:Expr){b o:List Stmt}(p:Pos)(L:Lv)(hb:∀L:Lv,aE oE (ak G b L.ev) (xv G W b L))(ho:∀L:Lv,aE oE (ak G o L.ev) (xv G W o L)):aE oE (cn G (.If t b o p) L.ev) (vS G W (.If t b o p) L):=by
 show aE oE (bO G (settle t L.ev) t (ag G (settle t L.ev) t)>>=fun c=>if c=true then ak G b (settle t L.ev) else ak G o (settle t L.ev)) _;rw [bM];exact ((ek HG t).t _ _ _ ((ek HG t).ev _)).bind fun c=>.ite (hb _) (ho _)
mutual
theorem K6:∀(st:Stmt) (L:Lv),aE oE (cn G st L.ev) (vS G W st L)
 |.Expr e _,L=>.nr HG L e
 |.Pass _,L=>.pure oE (.next,L)
 |.Continue _,L=>.pure oE (.cont,L)
 |.Return e _,L=>.retS HG L e
 |.Assign ts v p,L=>.zR HG L v p (k7 ts)
 |.AugAssign t o v _,L=>.zS HG L o v (optName t)
 |.Delete ts _,L=>.zT HG L (k7 ts)
 |.Raise e c _,L=>.nt HG L (gR e c)
 |.If t b o p,L=>.QY HG t p L (iP b) (iP o)
 |.For t it b e p,L=>.N4 HG t it e p L (iP b)
 |.While t b e p,L=>.II HG t e p L (iP b)
 |.FunctionDef ..,_=>.stuck _
 |.AsyncFunctionDef ..,_=>.stuck _
 |.ClassDef ..,_=>.stuck _
 |.TypeAlias ..,_=>.stuck _
 |.AnnAssign ..,_=>.stuck _
 |.AsyncFor ..,_=>.stuck _
 |.With ..,_=>.stuck _
 |.AsyncWith ..,_=>.stuck _
 |.Match ..,_=>.stuck _
 |.Try ..,_=>.stuck _
 |.TryStar ..,_=>.stuck _
 |.Assert ..,_=>.stuck _
 |.Import ..,_=>.stuck _
 |.ImportFrom ..,_=>.stuck _
 |.Global ..,_=>.stuck _
 |.Nonlocal ..,_=>.stuck _
 |.Break ..,_=>.stuck _
theorem iP:∀(b:List Stmt) (L:Lv),aE oE (ak G b L.ev) (xv G W b L)
 |[],L=>.pure oE (.next,L)
 |s::r,L=>(K6 s L).seq (iP r)
end
end
end Mine.Internal
end
section
namespace Mine.Internal
open PySem PyProof.Rows
noncomputable def vX:Stmt→Expr×List Stmt×List Stmt
 |.For t e b _ _=>(.Tuple [t,e] 0 default,b,[])
 |.While e b _ _=>(e,b,[])
 |.If e b o _=>(e,b,o)
 |.Assign ts e _=>(.Tuple (e::ts) 0 default,[],[])
 |.AugAssign _ _ e _=>(e,[],[])
 |.Return (some e) _=>(e,[],[])
 |.Expr e _=>(e,[],[])
 |_=>(.Name "" default,[],[])
noncomputable def kids:Expr→List Expr
 |.BinOp l _ r _=>[l,r]
 |.UnaryOp _ x _=>[x]
 |.IfExp t b o _=>[t,b,o]
 |.Compare l _ rs _=>l::rs
 |.Call f as _ _=>f::as
 |.Attribute o _ _=>[o]
 |.Subscript v i _=>[v,i]
 |.List es _=>es
 |.Tuple es _ _=>es
 |.BoolOp _ es _=>es
 |.Dict _ es _=>es
 |.ListComp e _ _ _=>[e]
 |_=>[]
noncomputable def QZ (e:Expr)(p:List Nat):Expr:=p.foldl (fun e i=>(kids e)[i]?.getD (.Name "" default)) e
noncomputable def N5 (l:List Str)(x:Str):List Str:=if x∈l then l else l++[x]
noncomputable def EN (acc:List Str):List Expr→List Str
 |[]=>acc
 |e::r=>EN (match optName e with
  |some x=>N5 acc x
  |none=>acc) r
mutual
noncomputable def N6:Stmt→List Str→List Str
 |.Assign ts _ _,acc=>EN (EN acc ts) (match ts with
  |[t]=>kids t
  |_=>[])
 |.If _ b o _,acc=>qa o (qa b acc)
 |.For t _ b _ _,acc=>qa b (EN acc [t])
 |.While _ b _ _,acc=>qa b acc
 |_,acc=>acc
noncomputable def qa:List Stmt→List Str→List Str
 |[],acc=>acc
 |s::r,acc=>qa r (N6 s acc)
end
noncomputable def vY:List Str→List (Option T)→List (Str×Option T)
 |[],_=>[]
 |x::xs,[]=>(x,none)::vY xs []
 |x::xs,v::vs=>(x,v)::vY xs vs
noncomputable def N7 (fn:Fn):List Str:=fn.params++(qa fn.body []).filter fun x=>!decide (x∈fn.params)
noncomputable def L0 (fn:Fn)(cS:Bool)(vs:List (Option T))(own:List (Str×T×Kd)):Lv:={loc:=vY (N7 fn) vs,own:=own,mv:=ew fn.body,cS:=cS}
theorem qb:∀xs:List Str,jC (vY xs [])=fun _=>none
 |[]=>rfl
 |x::xs=>funext fun y=>by
  show (if y=x then none else jC (vY xs []) y)=none;rw [qb xs,ite_self]
theorem rC:∀(ps:List Str) (as:List T) (ex:List Str),ps.length=as.length→jC (vY (ps++ex) (as.map some))=gj ps as
 |[],[],ex,_=>qb ex
 |x::ps,a::as,ex,h=>funext fun y=>by
  show (if y=x then some a else jC (vY (ps++ex) (as.map some)) y)=if y=x then some a else gj ps as y
  rw [rC ps as ex (Nat.succ.inj h)]
noncomputable def N8 (q:Out×Lv):V (T×Kd):=V.of (xY q.1)
noncomputable def N9 (G:Calls)(W:VC)(f:Str)(as:List T)(fn:Fn):V (T×Kd):=if fn.params.length=as.length then xv G W fn.body (L0 fn (decide (f="law")) (as.map some) [])>>=N8 else aw
noncomputable def B3 (G:Calls)(W:VC)(f:Str)(as:List T):V (T×Kd):=match fnOf f with
 |some fn=>N9 G W f as fn
 |none=>aw
noncomputable def EO:Nat→VC
 |0=>fun _ _=>aw
 |d+1=>fun f as=>B3 (ae d) (fun f as=>pk f (ae d f as) (EO d f as)) f as
noncomputable def iQ (d:Nat):VC:=fun f as=>pk f (ae d f as) (EO d f as)
theorem IJ {G:Calls}{W:VC}(HG:∀f as,aE id (G f as) (W f as))(f:Str)(as:List T)(fn:Fn):aE id (fF G (decide (f="law")) fn as) (N9 G W f as fn):=by
 unfold fF N9;by_cases h:fn.params.length=as.length
 ·rw [if_pos h,if_pos h]
  have e:({loc:=gj fn.params as,mv:=ew fn.body,cS:=decide (f="law")}:Ev)=(L0 fn (decide (f="law")) (as.map some) []).ev:=
   congrArg (fun l=>({loc:=l,mv:=ew fn.body,cS:=decide (f="law")}:Ev)) (rC fn.params as _ h).symm
  rw [e];exact (iP HG fn.body _).bind fun r=>.of _
 ·rw [if_neg h,if_neg h];exact .stuck _
theorem rD {d:Nat}{W:VC}(HG:∀f as,aE id (ae d f as) (W f as))(f:Str)(as:List T):aE id (ae (d+1) f as) (B3 (ae d) W f as):=by
 show aE id (match fnOf f with|some fn=>_|none=>_) _;unfold B3
 induction fnOf f with
 |none=>exact .stuck _
 |some fn=>exact IJ HG f as fn
theorem xw:∀(d:Nat) (f:Str) (as:List T),aE id (ae d f as) (EO d f as)
 |0,_,_=>.stuck _
 |d+1,f,as=>rD (W:=fun f as=>pk f (ae d f as) (EO d f as)) (fun f as=>.pk (xw d f as)) f as
theorem eO (d:Nat)(f:Str)(as:List T):aE id (ae d f as) (iQ d f as):=.pk (xw d f as)
inductive Fs:List (Str×Nat×Hint)→List Prop→List Prop→Prop
 |nil {a:List Prop}:Fs [] a a
 |t (n:Nat) {c b:Bool} {τ:List (Str×Nat×Hint)} {a fs:List Prop} (h:c=b) (r:Fs τ ((c=b)::a) fs):Fs (("?",n,.b b)::τ) a fs
 |v (k:Str) (n:Nat) {m:M (T×Kd)} {s:Sg} {R:Res (T×Kd)} {τ:List (Str×Nat×Hint)} {a fs:List Prop} (h:m s=R) (r:Fs τ ((m s=R)::a) fs):Fs ((k,n,.v R)::τ) a fs
 |p (k:Str) (n:Nat) {m:M (T×Kd)} {r:T×Kd} {τ:List (Str×Nat×Hint)} {a fs:List Prop} (h:∀s,m s=.ok r s) (q:Fs τ ((∀s,m s=.ok r s)::a) fs):Fs ((k,n,.p r)::τ) a fs
 |x (k:Str) (n:Nat) {m:M (Out×Ev)} {s s':Sg} {e:Str} {τ:List (Str×Nat×Hint)} {a fs:List Prop} (h:m s=.ct e s') (r:Fs τ ((m s=.ct e s')::a) fs):Fs ((k,n,.x e s')::τ) a fs
 |l (n:Nat) {v:T} {l:List T} {τ:List (Str×Nat×Hint)} {a fs:List Prop} (h:gB v=some l) (r:Fs τ ((gB v=some l)::a) fs):Fs (("it",n,.l l)::τ) a fs
 |o (k:Str) (n:Nat) {m:M (Out×Ev)} {s s':Sg} {o:Out} {L:Lv} {τ:List (Str×Nat×Hint)} {a fs:List Prop} (h:m s=.ok (o,L.ev) s') (r:Fs τ ((m s=.ok (o,L.ev) s')::a) fs):Fs ((k,n,.o o L s')::τ) a fs
theorem Fs.all {τ:List (Str×Nat×Hint)}{a fs:List Prop}(q:Fs τ a fs):AllP a→AllP fs:=by
 induction q with
 |nil=>exact fun h=>h
 |t _ q _ ih=>exact fun h=>ih (.cons q h)
 |v _ _ q _ ih=>exact fun h=>ih (.cons q h)
 |p _ _ q _ ih=>exact fun h=>ih (.cons q h)
 |x _ _ q _ ih=>exact fun h=>ih (.cons q h)
 |l _ q _ ih=>exact fun h=>ih (.cons q h)
 |o _ _ q _ ih=>exact fun h=>ih (.cons q h)
theorem Fs.c {f:Str}(n:Nat){d:Nat}{as:List T}{s:Sg}{R:Res (T×Kd)}{τ:List (Str×Nat×Hint)}{a fs:List Prop}(h:ae d f as s=R)(r:Fs τ ((ae d f as s=R)::a) fs):Fs ((f,n,.v R)::τ) a fs:=.v f n (m:=ae d f as) h r
theorem aE.run {α β:Type}{f:β→α}{m:M α}{v:V β}(h:aE f m v){s s':Sg}{b:β}{τ:List (Str×Nat×Hint)}{fs:List Prop}(q:Fs τ [] fs)(e:v s ⟨τ,[]⟩=.ok b s' ⟨[],fs⟩):m s=.ok (f b) s':=by
 have g:=h s ⟨τ,[]⟩;rw [e] at g
 cases g with
 |ok g=>exact (g (q.all .nil)).1
theorem aE.gu {α β:Type}{f:β→α}{m:M α}{v:V β}(h:aE f m v){s s':Sg}{x:Str}{τ:List (Str×Nat×Hint)}{fs:List Prop}(q:Fs τ [] fs)(e:v s ⟨τ,[]⟩=.ct x s' ⟨[],fs⟩):m s=.ct x s':=by
 have g:=h s ⟨τ,[]⟩;rw [e] at g
 cases g with
 |ct g=>exact (g (q.all .nil)).1
section
variable {d:Nat}{s s':Sg}{τ:List (Str×Nat×Hint)}{fs:List Prop}
theorem run {f:Str}{as:List T}{a:T×Kd}(q:Fs τ [] fs)(e:B3 (ae d) (iQ d) f as s ⟨τ,[]⟩=.ok a s' ⟨[],fs⟩):ae (d+1) f as s=.ok a s':=(rD (eO d) f as).run q e
theorem gu {f:Str}{as:List T}{x:Str}(q:Fs τ [] fs)(e:B3 (ae d) (iQ d) f as s ⟨τ,[]⟩=.ct x s' ⟨[],fs⟩):ae (d+1) f as s=.ct x s':=(rD (eO d) f as).gu q e
theorem aV {b:List Stmt}{L L':Lv}{o:Out}(q:Fs τ [] fs)(e:xv (ae d) (iQ d) b L s ⟨τ,[]⟩=.ok (o,L') s' ⟨[],fs⟩):ak (ae d) b L.ev s=.ok (o,L'.ev) s':=(iP (eO d) b L).run q e
theorem mA {b:List Stmt}{L:Lv}{x:Str}(q:Fs τ [] fs)(e:xv (ae d) (iQ d) b L s ⟨τ,[]⟩=.ct x s' ⟨[],fs⟩):ak (ae d) b L.ev s=.ct x s':=(iP (eO d) b L).gu q e
theorem Oa {e:Expr}{L:Ev}{a:T×Kd}(q:Fs τ [] fs)(h:vE (ae d) (iQ d) L e s ⟨τ,[]⟩=.ok a s' ⟨[],fs⟩):ag (ae d) L e s=.ok a s':=((ek (eO d) e).ev L).run q h
theorem oA (G:Calls)(L:Ev):∀es:List Expr,cE G L es=evalAnd G L es
 |[]=>rfl
 |e::r=>by
  show (bO G L e (ag G L e)>>=fun b=>if b=true then cE G L r else pure false)=_;rw [oA G L r];rfl
theorem Ob {es:List Expr}{L:Ev}{b:Bool}(q:Fs τ [] fs)(h:BU (ae d) (iQ d) L es s ⟨τ,[]⟩=.ok b s' ⟨[],fs⟩):cE (ae d) L es s=.ok b s':=by
 rw [oA];exact ((BW (eO d) es).and L).run q h
theorem EP {e:Expr}{L:Ev}{b:Bool}(q:Fs τ [] fs)(h:vT (ae d) (iQ d) L e (vE (ae d) (iQ d) L e) s ⟨τ,[]⟩=.ok b s' ⟨[],fs⟩):bO (ae d) L e (ag (ae d) L e) s=.ok b s':=((ek (eO d) e).t L _ _ ((ek (eO d) e).ev L)).run q h
end
noncomputable def bodyOf (f:Str):List Stmt:=match fnOf f with
 |some fn=>fn.body
 |none=>[]
noncomputable def jD (f:Str)(p:List Nat):List Stmt:=p.foldl (fun b i=>match b[i % 1000]? with
 |some s=>if i < 1000 then (vX s).2.1 else (vX s).2.2
 |none=>[]) (bodyOf f)
noncomputable def gI (f:Str)(p:List Nat)(i:Nat)(q:List Nat):Expr:=match (jD f p)[i]? with
 |some s=>QZ (vX s).1 q
 |none=>.Name "" default
noncomputable def Lf (f:Str)(vs:List (Option T))(own:List (Str×T×Kd)):Lv:=match fnOf f with
 |some fn=>L0 fn (decide (f="law")) vs own
 |none=>⟨[],[],[],false⟩
section
variable {G:Calls}{x:Str}{b:List Stmt}{t u:T}{r:List T}{L L1:Lv}{s s1:Sg}{R:Res (Out×Ev)}
theorem xx {R:Res (Out×Ev)}(h:ak G b (L.ax x t).ev s=R):ak G b (L.ev.ax x t) s=R:=Lv.cj L x t▸h
theorem aN (h:ak G b (L.ax x t).ev s=.ok (.next,L1.ev) s1)(h2:eh G x b r L1 s1=R):eh G x b (t::r) L s=R:=by
 exact (bf (xx h)).trans h2
theorem tS (h:ak G b (L.ax x t).ev s=.ok (.cont,L1.ev) s1)(h2:eh G x b r L1 s1=R):eh G x b (t::r) L s=R:=by
 exact (bf (xx h)).trans h2
theorem fZ {k:Kd}(h:ak G b (L.ax x t).ev s=.ok (.ret u k,L1.ev) s1):eh G x b (t::r) L s=.ok (.ret u k,L1.ev) s1:=by
 exact bf (xx h)
theorem hA {m:Str}(h:ak G b (L.ax x t).ev s=.ct m s1):eh G x b (t::r) L s=.ct m s1:=by
 exact tQ (xx h)
theorem xy {e:Expr}{n:Nat}(h0:bO G (bA e L).ev e (ag G (bA e L).ev e) s=.ok true s)(h:ak G b (bA e L).ev s=.ok (.next,L1.ev) s1)(h2:IH G e b n L1 s1=R):IH G e b (n+1) L s=R:=by
 rw [←bM] at h h0;exact (bf h0).trans ((bf h).trans h2)
theorem B4 {e:Expr}{n:Nat}(h0:bO G (bA e L).ev e (ag G (bA e L).ev e) s=.ok false s1):IH G e b (n+1) L s=.ok (.next,(bA e L).ev) s1:=by
 rw [←bM] at h0 ⊢;exact bf h0
end
theorem dF {p:Prop}[Decidable p](h:¬p):decide p=false:=decide_eq_false h
theorem dT {p:Prop}[Decidable p](h:p):decide p=true:=decide_eq_true h
theorem dN {p:Prop}[Decidable p](h:¬p):¬decide p=true:=fun q=>h (of_decide_eq_true q)
noncomputable abbrev SG (row:Option (List Int))(k:Str)(ah:List T)(at':Option (List (Str×T)))(ep:Nat):Sg:=⟨row,some ⟨k,ah,at',ep⟩⟩
inductive yP (m:M (T×Kd)) (s:Sg) (t:T) (s':Sg):Prop
 |v (h:m s=.ok (t,.val) s')
 |o (h:m s=.ok (t,.own) s')
theorem yP.kd {m:M (T×Kd)}{s s':Sg}{t:T}(h:yP m s t s'):∃k,m s=.ok (t,k) s'∧∀s,solid (t,k) s=.ok (t,k) s:=by
 induction h with
 |v h=>exact ⟨_,h,fun _=>rfl⟩
 |o h=>exact ⟨_,h,fun _=>rfl⟩
theorem eP {α:Type}{f:T→M α}{t:T}{k:Kd}{s s':Sg}{r:α}(hk:k≠.h)(h:f t s=.ok r s'):quiet k f t s=.ok r s':=by
 unfold quiet j1 ba;rw [if_neg hk,h]
theorem lO {f:T→M (T×Kd)}{t u:T}{k:Kd}{s s':Sg}(hk:k≠.h)(h:yP (f t) s u s'):yP (quiet k f t) s u s':=by
 induction h with
 |v h=>exact .v (eP hk h)
 |o h=>exact .o (eP hk h)
theorem lP {f:T→M Bool}{g:T→M (T×Kd)}{t u:T}{r us:List T}{s s1 s2:Sg}(h1:f t s=.ok true s)(h2:yP (g t) s u s1)(h3:tests f g r s1=.ok us s2):tests f g (t::r) s=.ok (u::us) s2:=by
 obtain ⟨k,e,hs⟩:=h2.kd;exact (bf h1).trans ((bf e).trans ((bf (hs s1)).trans (bf h3)))
theorem vZ {f:T→M Bool}{g:T→M (T×Kd)}{t:T}{r us:List T}{s s2:Sg}(h1:f t s=.ok false s)(h3:tests f g r s=.ok us s2):tests f g (t::r) s=.ok us s2:=(bf h1).trans h3
theorem qd {f:T→M Bool}{g:T→M (T×Kd)}{s:Sg}(h:T→T):∀{l:List T},(∀t∈l,f t s=.ok true s)→(∀t∈l,yP (g t) s (h t) s)→tests f g l s=.ok (l.map h) s
 |[],_,_=>rfl
 |_::_,h1,h2=>lP (h1 _ (.head _)) (h2 _ (.head _)) (qd h (fun t ht=>h1 t (.tail _ ht)) fun t ht=>h2 t (.tail _ ht))
theorem uy:Kd.val≠.h:=fun h=>nomatch h
noncomputable def gb:Expr→List Comprehension×Scope×Expr×Expr
 |.ListComp e gs sc _=>(gs,sc,e,e)
 |.DictComp k v gs sc _=>(gs,sc,k,v)
 |e=>([],default,e,e)
noncomputable def lQ (G:Calls)(L:Ev)(e:Expr)(t:T):M (T×Kd):=BS G L (gb e).2.1 (gb e).1 (gb e).2.2.2 t
noncomputable def ET (G:Calls)(L:Ev)(e:Expr)(t:T):M (T×Kd):=BS G L (gb e).2.1 (gb e).1 (gb e).2.2.1 t
noncomputable def oB (G:Calls)(L:Ev)(e:Expr)(t:T):M Bool:=BR G L (gb e).2.1 (gb e).1 t
section
variable {d:Nat}{s s':Sg}{τ:List (Str×Nat×Hint)}{fs:List Prop}{L:Ev}{e:Expr}{t:T}
theorem eC {a:T×Kd}(q:Fs τ [] fs)(h:vE (ae d) (iQ d) (L6 L (gb e).2.1 (gb e).1 t) (gb e).2.2.2 s ⟨τ,[]⟩=.ok a s' ⟨[],fs⟩):lQ (ae d) L e t s=.ok a s':=Oa q h
theorem runC {b:Bool}(q:Fs τ [] fs)(h:BU (ae d) (iQ d) (L6 L (gb e).2.1 (gb e).1 t) (BQ (gb e).1).2 s ⟨τ,[]⟩=.ok b s' ⟨[],fs⟩):oB (ae d) L e t s=.ok b s':=Ob q h
end
section
variable {G:Calls}{L:Ev}{e:Expr}{l:List T}{k:Kd}{s s':Sg}
theorem oC {us:List T}(h:cK G L l k e=jy l k (oB G L e) (lQ G L e))(h2:tests (quiet k (oB G L e)) (quiet k (lQ G L e)) l s=.ok us s'):cK G L l k e s=.ok (.list us,.own) s':=by
 rw [h];exact bf h2
theorem comp_map (h:cK G L l k e=jy l k (oB G L e) (lQ G L e))(hk:k≠.h)(f:T→T)(h1:∀t∈l,oB G L e t s=.ok true s)(h2:∀t∈l,yP (lQ G L e t) s (f t) s):cK G L l k e s=.ok (.list (l.map f),.own) s:=
 oC h (qd f (fun t ht=>eP hk (h1 t ht)) fun t ht=>lO hk (h2 t ht))
end
theorem fJ {α β:Type}{acc:List α}{r:List β}{i:α}{n:Nat}(h:acc.length+(r.length+1) < n):(acc++[i]).length+r.length < n:=by
 rw [List.length_append,Nat.add_assoc,Nat.add_comm _ r.length];exact h
theorem map_lt {α β:Type}{f:α→β}{acc:List α}{r n:Nat}(h:acc.length+(r+1) < n):(acc.map f).length < n:=List.length_map f▸Nat.lt_of_le_of_lt (Nat.le_add_right _ _) h
noncomputable def c8 (at':Option (List (Str×T)))(n:Str):Option (List (Str×T)):=match at' with
 |none=>none
 |some es=>if (es.lookup n).isSome then (if (cD es n).length=0 then none else some (cD es n)) else some es
noncomputable def kJ (at':Option (List (Str×T)))(n:Str)(t:T):Option (List (Str×T)):=some (dput (at'.getD []) n t)
theorem rE (k':Str)(t':T)(es:List (Str×T))(k:Str)(t:T):dput ((k',t')::es) k t=if k'=k then (k',t)::es else (k',t')::dput es k t:=rfl
theorem rF (k':Str)(t':T)(es:List (Str×T))(k:Str):cD ((k',t')::es) k=if k'=k then es else (k',t')::cD es k:=rfl
theorem eQ (es:List (Str×T))(k:Str)(t:T)(y:Str):(dput es k t).lookup y=if y=k then some t else es.lookup y:=by
 induction es with
 |nil=>
  show List.lookup y [(k,t)]=_;refine Eq.trans List.lookup_cons ?_;by_cases h:y=k
  ·subst h;simp
  ·have:(y == k)=false:=by simpa using h
   rw [this,if_neg h]
 |cons p es ih=>
  obtain ⟨k',t'⟩:=p;rw [rE];by_cases hk:k'=k
  ·subst hk;rw [if_pos rfl,List.lookup_cons,List.lookup_cons];by_cases h:y=k'
   ·subst h;simp
   ·have:(y == k')=false:=by simpa using h
    rw [this,if_neg h]
  ·rw [if_neg hk,List.lookup_cons,List.lookup_cons];by_cases h:y=k'
   ·subst h;rw [if_neg hk];simp
   ·have:(y == k')=false:=by simpa using h
    rw [this];exact ih
theorem fK (es:List (Str×T))(k:Str)(t:T):(dput es k t).length≤es.length+1:=by
 induction es with
 |nil=>exact Nat.le_refl _
 |cons p es ih=>
  obtain ⟨k',t'⟩:=p;rw [rE];by_cases hk:k'=k
  ·rw [if_pos hk];exact Nat.le_succ _
  ·rw [if_neg hk];exact Nat.succ_le_succ ih
theorem yQ (es:List (Str×T))(k:Str)(t:T):(dput es k t).map (·.1)=if k∈es.map (·.1) then es.map (·.1) else es.map (·.1)++[k]:=by
 induction es with
 |nil=>exact (if_neg List.not_mem_nil).symm
 |cons p es ih=>
  obtain ⟨k',t'⟩:=p;rw [rE];by_cases hk:k'=k
  ·subst hk;simp
  ·rw [if_neg hk,List.map_cons,ih];have:¬k=k':=fun e=>hk e.symm
   by_cases hm:k∈es.map (·.1)
   ·rw [if_pos hm,if_pos (by simp only [List.map_cons,List.mem_cons];exact .inr hm)];rfl
   ·rw [if_neg hm,if_neg (by simp only [List.map_cons,List.mem_cons];exact fun q=>q.elim this hm)];rfl
theorem hH (es:List (Str×T))(k:Str)(t:T)(h:(es.map (·.1)).Nodup):((dput es k t).map (·.1)).Nodup:=by
 rw [yQ];split
 ·exact h
 ·rename_i hm;rw [List.nodup_append];refine ⟨h,by simp,?_⟩;intro a ha b hb e;simp only [List.mem_singleton] at hb;subst hb;subst e;exact hm ha
theorem iR {es:List (Str×T)}{k:Str}(h:k∉es.map (·.1)):es.lookup k=none:=by
 induction es with
 |nil=>rfl
 |cons p es ih=>
  obtain ⟨k',t'⟩:=p;simp only [List.map_cons,List.mem_cons,not_or] at h;refine Eq.trans List.lookup_cons ?_;have:(k == k')=false:=by simpa using h.1
  exact this▸(ih h.2)
theorem lR (es:List (Str×T))(k:Str):∃l,(cD es k).map (·.1)=l∧l.Sublist (es.map (·.1)):=by
 refine ⟨_,rfl,?_⟩
 induction es with
 |nil=>exact List.Sublist.refl _
 |cons p es ih=>
  obtain ⟨k',t'⟩:=p;rw [rF];by_cases hk:k'=k
  ·rw [if_pos hk];exact List.sublist_cons_self _ _
  ·rw [if_neg hk];exact ih.cons_cons _
theorem hJ (es:List (Str×T))(k:Str)(h:(es.map (·.1)).Nodup):((cD es k).map (·.1)).Nodup:=by
 obtain ⟨l,e,hs⟩:=lR es k;rw [e];exact hs.nodup h
theorem gc (es:List (Str×T))(k:Str)(y:Str)(h:(es.map (·.1)).Nodup):(cD es k).lookup y=if y=k then none else es.lookup y:=by
 induction es with
 |nil=>exact (ite_self _).symm
 |cons p es ih=>
  obtain ⟨k',t'⟩:=p;rw [List.map_cons,List.nodup_cons] at h;rw [rF];by_cases hk:k'=k
  ·subst hk;rw [if_pos rfl,List.lookup_cons];by_cases hy:y=k'
   ·subst hy;rw [if_pos rfl];exact iR h.1
   ·have:(y == k')=false:=by simpa using hy
    rw [this,if_neg hy]
  ·rw [if_neg hk,List.lookup_cons,List.lookup_cons];by_cases hy:y=k'
   ·subst hy;rw [if_neg hk];simp
   ·have:(y == k')=false:=by simpa using hy
    exact this▸(ih h.2)
theorem rG (at':Option (List (Str×T)))(k y:Str)(h:((at'.getD []).map (·.1)).Nodup):((c8 at' k).getD []).lookup y=if y=k then none else (at'.getD []).lookup y:=by
 induction at' with
 |none=>simp [c8]
 |some es=>
  unfold c8;dsimp only [Option.getD];by_cases h1:(es.lookup k).isSome=true
  ·rw [if_pos h1];rw [←gc es k y h];by_cases h2:(cD es k).length=0
   ·rw [if_pos h2,List.length_eq_zero_iff.mp h2]
   ·rw [if_neg h2]
  ·rw [if_neg h1];show List.lookup y es=_;by_cases hy:y=k
   ·subst hy;rw [if_pos rfl];exact Option.not_isSome_iff_eq_none.mp h1
   ·rw [if_neg hy]
theorem eR (at':Option (List (Str×T)))(k:Str)(h:((at'.getD []).map (·.1)).Nodup):(((c8 at' k).getD []).map (·.1)).Nodup:=by
 induction at' with
 |none=>exact h
 |some es=>
  unfold c8;dsimp only [Option.getD];by_cases h1:(es.lookup k).isSome=true
  ·rw [if_pos h1];by_cases h2:(cD es k).length=0
   ·rw [if_pos h2];simp
   ·rw [if_neg h2];exact hJ es k h
  ·rw [if_neg h1];exact h
theorem gJ (at':Option (List (Str×T)))(k:Str):((c8 at' k).getD []).length≤(at'.getD []).length:=by
 induction at' with
 |none=>exact Nat.le_refl _
 |some es=>
  have hd:(cD es k).length≤es.length:=by
   obtain ⟨l,e,hs⟩:=lR es k;have:=hs.length_le;rw [←e,List.length_map,List.length_map] at this;exact this
  unfold c8;dsimp only [Option.getD];by_cases h1:(es.lookup k).isSome=true
  ·rw [if_pos h1];by_cases h2:(cD es k).length=0
   ·rw [if_pos h2];simp
   ·rw [if_neg h2];exact hd
  ·rw [if_neg h1];exact Nat.le_refl _
theorem tT (at':Option (List (Str×T)))(k y:Str)(t:T):((kJ at' k t).getD []).lookup y=if y=k then some t else (at'.getD []).lookup y:=eQ _ _ _ _
theorem oF (at':Option (List (Str×T)))(k:Str)(t:T)(h:((at'.getD []).map (·.1)).Nodup):(((kJ at' k t).getD []).map (·.1)).Nodup:=hH _ _ _ h
noncomputable def fe:T→Str
 |.str x=>"="++x
 |_=>"?"
noncomputable def fR (t:T):Prop:=t=.none∨∃x:Str,t=.str x∧x.length≤100
noncomputable def kK:List T→List T→Option Nat
 |_,[]=>none
 |done,u::r=>if (done.any fun w=>decide (fe w=fe u))=true then some done.length else kK (done++[u]) r
theorem xA (done:List T)(u:T)(r:List T):kK done (u::r)=if (done.any fun w=>decide (fe w=fe u))=true then some done.length else kK (done++[u]) r:=rfl
noncomputable def yR (i:Nat):Str:=("factor level ["++bc ((i:Int)+1))++"] is duplicated"
theorem iS {i:Int}(h0:0≤i)(h1:i < 10 ^ 18):(bc i).length≤18:=by
 obtain ⟨m,rfl⟩:=Int.eq_ofNat_of_zero_le h0;have e:=(Nat.length_repr_le_iff (n:=m) (by decide:0 < 18)).mpr (by omega)
 have e2:(bc (m:Int)).cps.toList=(Nat.repr m).toList.map Char.toNat:=by
  unfold bc;rw [signs_ofString];rfl
 show (bc (m:Int)).cps.size≤18;rw [←Array.length_toList,e2,List.length_map,String.length_toList];exact e
noncomputable def cz (s:Nat):T:=.tup [.int (2 * (s:Int)+1),.int 2]
theorem len_app {a b:Str}{n m:Nat}(h:a.length≤n)(h2:b.length≤m):(a++b).length≤n+m:=by
 rw [Str.length_append];exact Nat.add_le_add h h2
theorem fits {a:Str}{n:Nat}(h:a.length≤n)(hn:Nat.ble n 1000=true):decide (a.length≤aq)=true:=dT (Nat.le_trans h (Nat.le_of_ble_eq_true hn))
theorem cG {x y:Str}{n:Nat}(h:(x++y).length≤n)(hn:Nat.ble n 1000=true)(s:Sg):ay (dy .Add (.str x) (.str y)) s=.ok (.str (x++y),.val) s:=by
 show ay (if x.length+y.length≤aq then some (T.str (x++y),Kd.val) else none) s=_;rw [if_pos (show x.length+y.length≤aq from Str.length_append x y▸Nat.le_trans h (Nat.le_of_ble_eq_true hn))];rfl
theorem gv {i:Int}(h:aO i=true)(s:Sg):zO (.int i,.val) s=.ok (.str (bc i),.val) s:=by
 show (if aO i=true then val (.str (bc i)) else stuck) s=_;rw [if_pos h];rfl
theorem fL {i:Int}(h:aO i=true)(s:Sg):dX "str" [.int i] s=.ok (.str (bc i),.val) s:=gv h s
theorem cf {n:Nat}(h:n < 1000):aO (n:Int)=true:=dT (Nat.lt_trans h (by decide))
theorem eD {n:Nat}(h:n < 1000):aO ((n:Int)+1)=true:=dT (by (first|assumption|exact Nat.le_of_lt ‹_›|exact Nat.lt_of_lt_of_le ‹_ < _› ‹_≤_›|exact Nat.lt_of_le_of_lt ‹_≤_› ‹_ < _›|exact Nat.le_trans ‹_≤_› ‹_≤_›|exact Nat.lt_of_le_of_lt ‹_≤_› (by decide)|exact Nat.lt_trans ‹_ < _› (by decide)|exact Nat.le_trans ‹_≤_› (by decide)))
theorem cH {n:Nat}(h:n < 1000):(bc (n:Int)).length≤18:=iS (i:=(n:Int)) (Int.natCast_nonneg n) (by omega)
theorem mW (ts:List T)(a:T)(h:ts.length < 2000)(s:Sg):(ay (gh (.list ts) "append" [a])>>=val) s=.ok (.list (ts++[a]),.val) s:=by
 rw [show gh (.list ts) "append" [a]=some (.list (ts++[a])) from if_pos ⟨rfl,h⟩];rfl
theorem bU (ts:List T)(a:T)(h:ts.length < 1000):∀s,(ay (gh (.list ts) "append" [a])>>=val) s=.ok (.list (ts++[a]),.val) s:=mW ts a (Nat.lt_trans h (by decide))
theorem aQ {n:Nat}(h:n < 1000):gB (.range 0 (n:Int))=some ((List.range' 0 n).map fun i:Nat=>T.int (i:Int)):=by
 show (if (aO 0&&aO (n:Int)&&decide ((n:Int) - 0≤(aq:Int)))=true then some ((dz 0 (n:Int)).map T.int) else none)=_;rw [show aO 0=true by decide,cf h,dT (show ((n:Int) - 0≤(aq:Int)) from by unfold aq;omega)];show some _=some _;refine congrArg some ?_;unfold dz;rw [List.map_map,Int.sub_zero,Int.toNat_natCast,List.range_eq_range'];exact congrArg (fun f=>(List.range' 0 n).map f) (funext fun i=>congrArg T.int (Int.zero_add _))
theorem bl {us:List T}{i:Nat}{u:T}(h:us[i]?=some u)(s:Sg):ie (.list us) (.int (i:Int)) s=.ok (u,.val) s:=by
 show (if (0:Int)≤(i:Int) then (match us[(i:Int).toNat]? with|some t=>Res.ok (t,Kd.val) s|none=>.stuck) else .stuck)=_;rw [if_pos (Int.natCast_nonneg i),Int.toNat_natCast,h]
theorem bY {es:List (Str×T)}{x:Str}{t:T}(h:es.lookup x=some t)(s:Sg):ie (.dict es) (.str x) s=.ok (t,.val) s:=by
 show (match es.lookup x with|some t=>(Res.ok (t,Kd.val) s:Res (T×Kd))|none=>.stuck)=_;rw [h]
theorem nF {p:Prop}[Decidable p](h:p):(!decide p)=false:=by rw [dT h];rfl
theorem nT {p:Prop}[Decidable p](h:¬p):(!decide p)=true:=by rw [dF h];rfl
theorem ff {a b:Nat}(h:a=b):decide ((a:Int)=(b:Int))=true:=dT (congrArg _ h)
theorem bN {a b:Nat}(h:a≠b):decide ((a:Int)=(b:Int))=false:=dF fun q=>h (Int.ofNat.inj q)
theorem iT {a b:Nat}(h:a < b):decide ((a:Int) < (b:Int))=true:=dT (Int.ofNat_lt.mpr h)
theorem fM {a b:Nat}(h:b≤a):decide ((a:Int) < (b:Int))=false:=dF (Int.not_lt.mpr (Int.ofNat_le.mpr h))
theorem K7 {a b:Nat}(h:a≤b):decide ((a:Int)≤(b:Int))=true:=dT (Int.ofNat_le.mpr h)
theorem K8 {a b:Nat}(h:b < a):decide ((a:Int)≤(b:Int))=false:=dF (Int.not_le.mpr (Int.ofNat_lt.mpr h))
noncomputable def yS (a:Int)(b:Nat):Str:=((("dims [product "++bc a)++"] do not match the length of object [")++bc b)++"]"
noncomputable def cc (l:List Int)(t:Int):Int:=l.foldl (· * ·) t
noncomputable def EU (i:Nat):Str:=("length of 'dimnames' ["++bc ((i:Int)+1))++"] not equal to array extent"
noncomputable def v5 (a b:Nat):Str:=((("length of 'dimnames' ["++bc a)++"] must match that of 'dims' [")++bc b)++"]"
noncomputable def bh:Option (List T)→T
 |none=>.null
 |some us=>.vec "character" us .none
noncomputable def kL (p:Option (List T))(e:Int)(i:Nat):Str ⊕ T:=match p with
 |none=>.inr .null
 |some us=>if (us.length:Int)≠e∧0 < us.length then .inl (EU i) else .inr (.vec "character" us .none)
noncomputable def lh:T→Bool
 |.vec ..=>true
 |_=>false
noncomputable def IK:T→T
 |.vec _ [] _=>.null
 |t=>t
noncomputable def rH:List (Option (List T))→List Int→Nat→List T→Str ⊕ List T
 |_,[],_,acc=>.inr acc
 |[],_::r,i,acc=>rH [] r (i+1) (acc++[.null])
 |p::ps,e::r,i,acc=>match kL p e i with
  |.inl m=>.inl m
  |.inr t=>rH ps r (i+1) (acc++[IK t])
noncomputable def bq (h:Option (List T)):T:=match h with
 |none=>.none
 |some hs=>.dict [("names",.vec "character" hs .none)]
noncomputable def rI (h:Option (List T))(n:Nat):Option (List T):=h.map fun hs=>hs++List.replicate (n - hs.length) (.str "")
noncomputable def cL:Option Int→T
 |some i=>.int i
 |none=>.none
noncomputable def ip:List (Option Int)→List Int→Str ⊕ List Int
 |[],acc=>.inr acc
 |none::_,_=>.inl "the dims contain missing values"
 |some i::r,acc=>if i < 0 then .inl "the dims contain negative values" else ip r (acc++[i])
theorem oG (i:Int)(r:List (Option Int))(acc:List Int):ip (some i::r) acc=if i < 0 then .inl "the dims contain negative values" else ip r (acc++[i]):=rfl
noncomputable def B5 (a b:Nat):Str:=((((Str.empty++"'names' attribute [")++bc a)++"] must be the same length as the vector [")++bc b)++"]"
noncomputable def fN:List (Option (List T))→List T→Option (List T)
 |[],acc=>some acc
 |some [u]::r,acc=>fN r (acc++[u])
 |_::_,_=>none
noncomputable def pq (l:List (Option Int)):List T:=match l with
 |[none,some x]=>(dz 1 ((x.natAbs:Int)+1)).map .int
 |l=>l.map cL
theorem EV (l:List (Option Int)):pq l=l.map cL∨∃r:List Int,pq l=r.map .int:=by
 cases l with
 |nil=>exact .inl rfl
 |cons a l=>cases a with
  |some=>exact .inl rfl
  |none=>cases l with
   |nil=>exact .inl rfl
   |cons b l=>cases b with
    |none=>exact .inl rfl
    |some x=>cases l with
     |nil=>exact .inr ⟨_,rfl⟩
     |cons=>exact .inl rfl
inductive Vl where
 |chr (us:List T)|int (l:List (Option Int))|dbl (l:List Nat)|qe (l:List (Option Int))|lst (ps:List (Option (List T))) (h:Option (List T))|nul
noncomputable def Vl.t:Vl→T
 |.chr us=>.vec "character" us .none
 |.int l=>.vec "integer" (l.map cL) .none
 |.dbl l=>.vec "double" (l.map cz) .none
 |.qe l=>.vec "logical" (l.map cL) .none
 |.lst ps h=>.vec "list" (ps.map bh) (bq h)
 |.nul=>.null
noncomputable def Vl.ok:Vl→Prop
 |.chr us=>us.length≤9∧∀u∈us,fR u
 |.int l=>l.length≤10∧∀x,some x∈l→x.natAbs≤20
 |.dbl l=>l≠[]∧l.length≤3∧∀s∈l,s≤8
 |.qe l=>l.length≤9∧∀x,some x∈l→x=0∨x=1
 |.lst ps h=>ps.length≤3∧(∀us,some us∈ps→us.length≤8∧∀u∈us,fR u)∧∀hs,h=some hs→hs.length=ps.length∧∀u∈hs,fR u
 |.nul=>True
noncomputable def hI:T→T
 |.int i=>.str (bc i)
 |_=>.none
noncomputable def hL:T→T
 |.int i=>.str (if i=1 then "TRUE" else "FALSE")
 |_=>.none
noncomputable def hD:T→T
 |.tup [.int i,_]=>.str (bc (Int.fdiv i 2)++".5")
 |_=>.none
noncomputable def words:Vl→Option (List T)
 |.chr us=>some us
 |.int l=>some ((l.map cL).map hI)
 |.dbl l=>some ((l.map cz).map hD)
 |.qe l=>some ((l.map cL).map hL)
 |.lst ps _=>fN ps []
 |.nul=>none
abbrev Lk:=Str→Option T
abbrev yT:=Str ⊕ List (Str×Option T)
abbrev oH:=Option (List (Str×T))
noncomputable def cw (at':oH):Lk:=fun y=>(at'.getD []).lookup y
noncomputable def app (u:List (Str×Option T))(lk:Lk):Lk:=fun y=>match u.lookup y with
 |some r=>r
 |none=>lk y
noncomputable def eS (lk:Lk):Option (List T):=match lk "dim" with
 |some (.vec _ ds _)=>some ds
 |_=>none
noncomputable def iU (lk:Lk):Bool:=match eS lk with
 |some ds=>decide (ds.length=1)
 |none=>false
noncomputable def nameKey (lk:Lk):Str:=if iU lk=true then "dimnames" else "names"
noncomputable def fw (lk:Lk)(ws:List T):T:=if iU lk=true then .vec "list" [.vec "character" ws .none] .none else .vec "character" ws .none
theorem oI:∀(ps:List (Option (List T))) (acc ws:List T),fN ps acc=some ws→ws.length=acc.length+ps.length
 |[],acc,ws,h=>by induction Option.some.inj h;rfl
 |none::r,acc,ws,h=>by exact bR h
 |some []::r,acc,ws,h=>by exact bR h
 |some [u]::r,acc,ws,h=>by
  have:=oI r (acc++[u]) ws h;refine Eq.trans this ?_;simp;lia
 |some (u::u2::us)::r,acc,ws,h=>by exact bR h
theorem qf {v:Vl}(hv:v.ok){ws:List T}(h:words v=some ws):ws.length < 20:=by
 induction v with
 |chr us=>induction Option.some.inj h;have:=hv.1;(first|assumption|exact Nat.le_of_lt ‹_›|exact Nat.lt_of_lt_of_le ‹_ < _› ‹_≤_›|exact Nat.lt_of_le_of_lt ‹_≤_› ‹_ < _›|exact Nat.le_trans ‹_≤_› ‹_≤_›|exact Nat.lt_of_le_of_lt ‹_≤_› (by decide)|exact Nat.lt_trans ‹_ < _› (by decide)|exact Nat.le_trans ‹_≤_› (by decide))
 |int l=>cases h;have:=hv.1;simp;(first|assumption|exact Nat.le_of_lt ‹_›|exact Nat.lt_of_lt_of_le ‹_ < _› ‹_≤_›|exact Nat.lt_of_le_of_lt ‹_≤_› ‹_ < _›|exact Nat.le_trans ‹_≤_› ‹_≤_›|exact Nat.lt_of_le_of_lt ‹_≤_› (by decide)|exact Nat.lt_trans ‹_ < _› (by decide)|exact Nat.le_trans ‹_≤_› (by decide))
 |dbl l=>cases h;have:=hv.2.1;simp;(first|assumption|exact Nat.le_of_lt ‹_›|exact Nat.lt_of_lt_of_le ‹_ < _› ‹_≤_›|exact Nat.lt_of_le_of_lt ‹_≤_› ‹_ < _›|exact Nat.le_trans ‹_≤_› ‹_≤_›|exact Nat.lt_of_le_of_lt ‹_≤_› (by decide)|exact Nat.lt_trans ‹_ < _› (by decide)|exact Nat.le_trans ‹_≤_› (by decide))
 |qe l=>cases h;have:=hv.1;simp;(first|assumption|exact Nat.le_of_lt ‹_›|exact Nat.lt_of_lt_of_le ‹_ < _› ‹_≤_›|exact Nat.lt_of_le_of_lt ‹_≤_› ‹_ < _›|exact Nat.le_trans ‹_≤_› ‹_≤_›|exact Nat.lt_of_le_of_lt ‹_≤_› (by decide)|exact Nat.lt_trans ‹_ < _› (by decide)|exact Nat.le_trans ‹_≤_› (by decide))
 |lst ps hh=>have:=oI _ _ _ h;have:=hv.1;simp at *;lia
 |nul=>exact bR h
noncomputable def iV (lk:Lk)(n:Nat):Vl→yT
 |.nul=>.inr [(nameKey lk,none)]
 |v=>match words v with
  |none=>.inl "invalid type (list) to set 'names' attribute"
  |some ws=>if n < ws.length then .inl (B5 ws.length n) else
   .inr [(nameKey lk,some (fw lk (ws++List.replicate (n - ws.length) .none)))]
noncomputable def Vl.nz:Vl→Bool
 |.nul=>false
 |_=>true
theorem B6 {v:Vl}(h:v.nz=true):v≠.nul:=fun e=>by subst e;exact d9 h
noncomputable def iq:Vl→Str ⊕ List Int
 |.int l=>if l.length=0 then .inl "length-0 dimension vector is invalid" else ip l []
 |.qe l=>if l.length=0 then .inl "length-0 dimension vector is invalid" else ip l []
 |.dbl l=>.inr (l.map fun (s:Nat)=>(s:Int))
 |_=>.inl "invalid second argument, must be vector or NULL"
noncomputable def jT (n:Nat):Vl→yT
 |.nul=>.inr [("dim",none),("dimnames",none)]
 |v=>match iq v with
  |.inl m=>.inl m
  |.inr ds=>if cc ds 1=(n:Int) then .inr [("dim",some (.vec "integer" (ds.map .int) .none)),("names",none),("dimnames",none)] else .inl (yS (cc ds 1) n)
noncomputable def kM (ts:List T):List Int:=ts.map fun t=>match t with|.int i=>i|_=>0
noncomputable def jj (lk:Lk):Vl→yT
 |.nul=>.inr [("dimnames",none)]
 |v=>match eS lk with
  |none=>.inl "'dimnames' applied to non-array"
  |some ds=>match v with
   |.lst ps h=>if ps.length=0 then .inr [("dimnames",none)] else if ds.length < ps.length then .inl (v5 ps.length ds.length) else
    (match rH ps (kM ds) 0 [] with
    |.inl m=>.inl m
    |.inr acc=>if (h.isSome||acc.any lh)=true then .inr [("dimnames",some (.vec "list" acc (bq (rI h ds.length))))] else .inr [("dimnames",none)])
   |_=>.inl "'dimnames' must be a list"
noncomputable def kN (k:Str):Vl→yT
 |.nul=>.inr [("class",none)]
 |.chr us=>if us.length=0 then .inr [("class",none)] else if us.any (qA "factor")=true∧k≠"integer" then .inl "adding class \"factor\" to an invalid object" else .inr [("class",some (.vec "character" us .none))]
 |_=>.inl "attempt to set invalid 'class' attribute"
noncomputable def jk:Vl→yT
 |.nul=>.inr [("levels",none)]
 |.chr us=>(match kK [] us with
  |some i=>.inl (yR i)
  |none=>.inr [("levels",some (.vec "character" us .none))])
 |v=>.inr [("levels",some v.t)]
noncomputable def K9:Vl→Str
 |.qe _=>"logical"
 |_=>"list"
noncomputable def mX:Vl→yT
 |.nul=>.inr [("row.names",none)]
 |.chr us=>.inr [("row.names",some (.vec "character" us .none))]
 |.int l=>.inr [("row.names",some (.vec "integer" (pq l) .none))]
 |.dbl l=>.inr [("row.names",some (.vec "integer" (l.map fun _=>.none) .none))]
 |v=>.inl ("row names must be 'character' or 'integer', not '"++K9 v++"'")
noncomputable def hM:Vl→yT
 |.nul=>.inr [("unit",none)]
 |v=>.inr [("unit",some v.t)]
structure Ok (k:Str) (n:Nat) (ah:List T) (at':oH):Prop where
 hk:k∈(["integer","double","character","logical","list"]:List Str)
 len:ah.length=n
 n8:n≤8
 sz:(at'.getD []).length < 100
 nd:((at'.getD []).map (·.1)).Nodup
 Jh:cw at' "dim"=none∨∃ds:List Int,ds≠[]∧ds.length≤10∧cw at' "dim"=some (.vec "integer" (ds.map .int) .none)
theorem Ok.nul {k n ah at'}(h:Ok k n ah at'):k≠"NULL"∧k≠"language"∧k≠"environment":=by
 have:=h.hk;simp only [List.mem_cons,List.not_mem_nil,or_false] at this;rcases this with rfl|rfl|rfl|rfl|rfl<;>decide +kernel
noncomputable def jw (R:Res (T×Kd))(row:Option (List Int))(k:Str)(ah:List T)(at':oH)(ep:Nat)(e:yT):Prop:=match e with
 |.inl m=>R=.ct m (SG row k ah at' ep)
 |.inr u=>∃at2 mY,R=.ok (.none,.val) (SG row k ah at2 mY)∧((at2.getD []).map (·.1)).Nodup∧(∀y,cw at2 y=app u (cw at') y)∧(at2.getD []).length≤(at'.getD []).length+1
theorem dw (x y:Str)(r:Option T)(lk:Lk):app [(x,r)] lk y=if y=x then r else lk y:=by
 unfold app;rw [List.lookup_cons];by_cases h:y=x
 ·subst h;simp
 ·have:(y == x)=false:=by simpa using h
  rw [this,if_neg h];rfl
theorem fO (x y:Str)(r:Option T)(u:List (Str×Option T))(lk:Lk):app ((x,r)::u) lk y=if y=x then r else app u lk y:=by
 unfold app;rw [List.lookup_cons];by_cases h:y=x
 ·subst h;simp
 ·have:(y == x)=false:=by simpa using h
  rw [this,if_neg h]
theorem iW (at':oH)(k y:Str)(h:((at'.getD []).map (·.1)).Nodup):cw (c8 at' k) y=if y=k then none else cw at' y:=rG at' k y h
theorem xB (at':oH)(k y:Str)(t:T):cw (kJ at' k t) y=if y=k then some t else cw at' y:=tT at' k y t
theorem gK {R:Res (T×Kd)}{row k ah at' ep}{x:Str}(C8:((at'.getD []).map (·.1)).Nodup)(h:∃mY,R=.ok (.none,.val) (SG row k ah (c8 at' x) mY)):jw R row k ah at' ep (.inr [(x,none)]):=by
 refine (h).elim fun mY e=>?_
 exact ⟨_,mY,e,eR at' x C8,fun y=>by rw [dw,iW at' x y C8],Nat.le_succ_of_le (gJ at' x)⟩
theorem cN {R:Res (T×Kd)}{row k ah at' ep}{x:Str}{t:T}(C8:((at'.getD []).map (·.1)).Nodup)(h:∃mY,R=.ok (.none,.val) (SG row k ah (kJ at' x t) mY)):jw R row k ah at' ep (.inr [(x,some t)]):=by
 refine (h).elim fun mY e=>?_
 exact ⟨_,mY,e,oF at' x t C8,fun y=>by rw [dw,xB at' x y t],fK _ _ _⟩
theorem oJ:∀(l:List (Option Int)) (acc ds:List Int),ip l acc=.inr ds→(∀x,some x∈l→x.natAbs≤20)→(∀x∈acc,0≤x∧x≤20)→(∀x∈ds,0≤x∧x≤20)∧ds.length=acc.length+l.length
 |[],acc,ds,h,_,ha=>by
  cases h;exact ⟨ha,by simp⟩
 |none::_,_,_,h,_,_=>by (first|contradiction)
 |some i::r,acc,ds,h,hl,ha=>by
  rw [oG] at h;by_cases hi:i < 0
  ·rw [if_pos hi] at h;cases h
  ·rw [if_neg hi] at h;have L7:=hl i (by simp)
   obtain ⟨h1,h2⟩:=oJ r (acc++[i]) ds h (fun x hx=>hl x (by simp [hx])) (fun x hx=>by
    rcases List.mem_append.mp hx with q|q
    ·exact ha x q
    ·rw [List.mem_singleton.mp q];lia)
   exact ⟨h1,by refine Eq.trans h2 ?_;simp;lia⟩
theorem iX {v:Vl}(hv:v.ok){ds:List Int}(h:iq v=.inr ds):(∀x∈ds,0≤x∧x≤20)∧ds.length≤10∧ds≠[]:=by
 induction v with
 |int l=>
  unfold iq at h;dsimp only at h;split at h
  ·cases h
  ·obtain ⟨h1,h2⟩:=oJ l [] ds h hv.2 (fun x hx=>absurd hx List.not_mem_nil);have:=hv.1;exact ⟨h1,by simp at h2;lia,fun e=>by subst e;simp at h2;lia⟩
 |qe l=>
  unfold iq at h;dsimp only at h;split at h
  ·cases h
  ·obtain ⟨h1,h2⟩:=oJ l [] ds h (fun x hx=>by have:=hv.2 x hx;lia) (fun x hx=>absurd hx List.not_mem_nil);have:=hv.1;exact ⟨h1,by simp at h2;lia,fun e=>by subst e;simp at h2;lia⟩
 |dbl l=>
  cases h;refine ⟨fun x hx=>?_,by have:=hv.2.1;simp;lia,by simpa using hv.1⟩;obtain ⟨s,hs,rfl⟩:=List.mem_map.mp hx;have:=hv.2.2 s hs;lia
 |chr us=>cases h
 |lst ps hh=>cases h
 |nul=>cases h
theorem oK:∀(l:List Int) (t:Int),(∀x∈l,0≤x∧x≤20)→0≤t→0≤cc l t∧cc l t≤t * 20 ^ l.length
 |[],t,_,ht=>⟨ht,by show t≤_;simp⟩
 |x::r,t,h,ht=>by
  have hx:=h x (by simp);have h0:0≤t * x:=Int.mul_nonneg ht hx.1;refine (oK r (t * x) (fun y hy=>h y (by simp [hy])) h0).elim fun h1 h2=>?_
  refine ⟨h1,Int.le_trans h2 ?_⟩
  have e:t * 20 ^ (x::r).length=(t * 20) * 20 ^ r.length:=by
   rw [List.length_cons,Int.pow_succ,Int.mul_comm (20 ^ r.length) 20,Int.mul_assoc]
  rw [e];exact Int.mul_le_mul_of_nonneg_right (Int.mul_le_mul_of_nonneg_left hx.2 ht) (Int.pow_nonneg (by decide))
theorem oL {ds:List Int}(h:∀x∈ds,0≤x∧x≤20)(hl:ds.length≤10):(∀i,i≤ds.length→aO (cc (ds.take i) 1)=true)∧0≤cc ds 1:=by
 refine ⟨fun i hi=>?_,(oK ds 1 h (by decide)).1⟩;refine (oK (ds.take i) 1 (fun x hx=>h x (List.mem_of_mem_take hx)) (by decide)).elim fun h1 h2=>?_
 have h3:(20:Int) ^ (ds.take i).length≤20 ^ 10:=by
  have:(20:Nat) ^ (ds.take i).length≤20 ^ 10:=Nat.pow_le_pow_right (by decide) (by simp;lia)
  exact_mod_cast this
 skip
 refine decide_eq_true ?_;have:(20:Int) ^ 10=10240000000000:=by decide
 lia
theorem qg (ds:List Int):kM (ds.map .int)=ds:=by
 unfold kM;refine Eq.trans List.map_map ?_;exact List.map_id _
noncomputable def La (lk:Lk)(k:Str)(n:Nat)(name:Str)(v:Vl):yT:=
 if name="names" then iV lk n v else if name="dim" then jT n v else if name="dimnames" then jj lk v else if name="class" then kN k v else if name="levels" then jk v else if name="row.names" then mX v else hM v
section
variable (d:Nat)(row:Option (List Int))(k:Str)(ah:List T)(at':oH)(ep:Nat)
theorem mZ (x:Str):∃dQ,ae (d+1) "drop_attr" [.self,.str x] (SG row k ah at' ep)=.ok (.none,.val) (SG row k ah (c8 at' x) dQ):=by
 induction at' with
 |none=>exact ⟨ep,run .nil (by kernel_rfl)⟩
 |some es=>
  unfold c8;dsimp only;by_cases h:(es.lookup x).isSome=true
  ·rw [if_pos h];by_cases h2:(cD es x).length=0
   ·rw [if_pos h2];exact ⟨ep+1+1,run (.t 1 h <| .t 0 h <| .t 0 (ff (b:=0) h2) .nil) (by kernel_rfl)⟩
   ·rw [if_neg h2];exact ⟨ep+1,run (.t 1 h <| .t 0 h <| .t 0 (bN (b:=0) h2) .nil) (by kernel_rfl)⟩
  ·rw [if_neg h];exact ⟨ep,run (.t 1 (Bool.eq_false_iff.mpr h) .nil) (by kernel_rfl)⟩
theorem B7 (x:Str)(k':Str)(ts:List T)(a:T)(hz:(at'.getD []).length < 1000):∃dQ,ae (d+2) "put_attr" [.self,.str x,.vec k' ts a] (SG row k ah at' ep)=.ok (.none,.val) (SG row k ah (kJ at' x (.vec k' ts a)) dQ):=by
 induction at' with
 |none=>exact ⟨ep+1+1,run .nil (by kernel_rfl)⟩
 |some es=>exact ⟨ep+1,run (.t 2 (dT (p:=es.length < aq) hz) .nil) (by kernel_rfl)⟩
theorem xC (x:Str):ae (d+1) "get_attr" [.self,.str x] (SG row k ah at' ep)=.ok ((cw at' x).getD .none,.val) (SG row k ah at' ep):=by
 induction at' with
 |none=>exact run .nil (by kernel_rfl)
 |some es=>exact run .nil (by kernel_rfl)
theorem oM {x:Str}{t:T}(h:cw at' x=some t):ae (d+1) "get_attr" [.self,.str x] (SG row k ah at' ep)=.ok (t,.val) (SG row k ah at' ep):=by
 have e:=xC d row k ah at' ep x
 rwa [h] at e
theorem oN {x:Str}(h:cw at' x=none):ae (d+1) "get_attr" [.self,.str x] (SG row k ah at' ep)=.ok (.none,.val) (SG row k ah at' ep):=by
 have e:=xC d row k ah at' ep x
 rwa [h] at e
end
section
variable {d:Nat}{row:Option (List Int)}{k:Str}{n:Nat}{ah:List T}{at':oH}{ep:Nat}(O:Ok k n ah at')
include O
theorem hO:ae (d+2) "dim_of" [.self] (SG row k ah at' ep)=match eS (cw at') with
  |none=>.ok (.none,.val) (SG row k ah at' ep)
  |some ds=>.ok (.list ds,.own) (SG row k ah at' ep):=by
 unfold eS;rcases O.Jh with h|⟨ds,_,_,h⟩
 ·rw [h];exact run (.c 0 (oN d row k ah at' ep h) .nil) (by kernel_rfl)
 ·rw [h];exact run (.c 0 (oM d row k ah at' ep h) .nil) (by kernel_rfl)
theorem gz:decide (k="NULL")=false:=dF O.nul.1
end
section
variable (d:Nat)(s:Sg)
theorem tU {k':Str}(hk:k'≠"double")(ah:List T)(a:T):∀(l:List (Option Int)) (acc:List Int) (o:Option T),acc.length+l.length < 1000→
  ∃o',eh (ae d) "item" (jD "extents" [3]) (l.map cL) (Lf "extents" [some (.vec k' ah a),none,o] [("dims",.list (acc.map .int),.own)]) s=match ip l acc with
  |.inl m=>.ct m s
  |.inr ds=>.ok (.next,(Lf "extents" [some (.vec k' ah a),none,o'] [("dims",.list (ds.map .int),.own)]).ev) s
 |[],acc,o,_=>⟨o,rfl⟩
 |none::r,acc,o,_=>⟨o,hA (mA (.t 0 (dF hk) .nil) (by kernel_rfl))⟩
 |some i::r,acc,o,hl=>by
  have hl:acc.length+(r.length+1) < 1000:=hl;rw [oG];by_cases hi:i < 0
  ·rw [if_pos hi];exact ⟨o,hA (mA (.t 0 (dF hk) <| .t 1 (dT hi) .nil) (by kernel_rfl))⟩
  ·rw [if_neg hi];refine (tU hk ah a r (acc++[i]) (some (.int i)) (fJ hl)).elim fun o' h=>?_
   rw [List.map_append] at h;exact ⟨o',aN (aV (.t 0 (dF hk) <| .t 1 (dF hi) <| .p "m" 0 (bU (acc.map .int) (.int i) (map_lt hl)) .nil) (by kernel_rfl)) h⟩
theorem xD {k':Str}(hk:k'="integer"∨k'="logical")(l:List (Option Int))(a:T)(hl:l.length < 1000)(jf:l.length≠0):ae (d+1) "extents" [.vec k' (l.map cL) a] s=match ip l [] with
   |.inl m=>.ct m s
   |.inr ds=>.ok (.list (ds.map .int),.own) s:=by
 refine (tU d s (k':=k') (by rcases hk with rfl|rfl<;>decide +kernel) (l.map cL) a l [] none (by rw [List.length_nil,Nat.zero_add];exact hl)).elim fun o q=>?_
 have hz:decide (((l.map cL).length:Int)=(0:Nat))=false:=bN (by rw [List.length_map];exact jf)
 induction hd:ip l [] with
 |inl m=>
  rw [hd] at q;rcases hk with rfl|rfl<;>exact gu (.t 1 hz <| .x "for" 0 q .nil) (by kernel_rfl)
 |inr ds=>
  rw [hd] at q;rcases hk with rfl|rfl<;>exact run (.t 1 hz <| .o "for" 0 q .nil) (by kernel_rfl)
theorem jl (n:Nat):Int.fdiv (2 * (n:Int)+1) 2=n:=by
 rw [Int.fdiv_eq_ediv_of_nonneg _ (by lia)];lia
theorem EW (n:Nat)(s:Sg):ay (dy .FloorDiv (.int (Int.natAbs (2 * (n:Int)+1):Int)) (.int 2)) s=.ok (.int n,.val) s:=by
 show Res.ok (T.int (Int.fdiv (Int.natAbs (2 * (n:Int)+1):Int) 2),Kd.val) s=_;rw [show (Int.natAbs (2 * (n:Int)+1):Int)=2 * (n:Int)+1 by lia,jl]
theorem oO (ah:List T)(a:T):∀(l:List Nat) (acc:List Int) (o o2:Option T),acc.length+l.length < 1000→
  ∃o' jZ,eh (ae d) "item" (jD "extents" [3]) (l.map cz) (Lf "extents" [some (.vec "double" ah a),none,o,o2] [("dims",.list (acc.map .int),.own)]) s=.ok (.next,(Lf "extents" [some (.vec "double" ah a),none,o',jZ] [("dims",.list ((acc++l.map fun (n:Nat)=>(n:Int)).map .int),.own)]).ev) s
 |[],acc,o,o2,_=>⟨o,o2,by rw [List.map_nil,List.map_nil,List.append_nil];rfl⟩
 |n::r,acc,o,o2,hl=>by
  have hl:acc.length+(r.length+1) < 1000:=hl;obtain ⟨o',jZ,h⟩:=oO ah a r (acc++[(n:Int)]) (some (.int n)) (some (.int n)) (fJ hl);rw [List.append_assoc,List.map_append] at h;exact ⟨o',jZ,aN (aV (.p "+" 0 (EW n) <| .p "m" 0 (bU (acc.map .int) (.int n) (map_lt hl)) .nil) (by kernel_rfl)) h⟩
theorem B8 {a b:Int}(h:aO a=true)(s:Sg):ay (dy .Mult (.int a) (.int b)) s=.ok (.int (a * b),.val) s:=by
 show ay (if aO a=true then some (T.int (a * b),Kd.val) else none) s=_;rw [if_pos h];rfl
theorem tV (v value ds:T):∀(l:List Int) (t:Int) (o:Option T),(∀i,i≤l.length→aO (cc (l.take i) t)=true)→
  ∃o',eh (ae d) "extent" (jD "set_dim" [3]) (l.map .int) (Lf "set_dim" [some v,some value,some ds,some (.int t),o] []) s=.ok (.next,(Lf "set_dim" [some v,some value,some ds,some (.int (cc l t)),o'] []).ev) s
 |[],t,o,_=>⟨o,rfl⟩
 |i::r,t,o,hs=>by
  obtain ⟨o',h⟩:=tV v value ds r (t * i) (some (.int i)) fun j hj=>hs (j+1) (Nat.succ_le_succ hj)
  exact ⟨o',aN (aV (.p "+" 0 (B8 (b:=i) (hs 0 (Nat.zero_le _))) .nil) (by kernel_rfl)) h⟩
end
section
variable (d:Nat)(s:Sg)
theorem EX (v:Vl)(hv:v.ok)(hn:v≠.nul):ae (d+1) "extents" [v.t] s=match iq v with
  |.inl m=>.ct m s
  |.inr ds=>.ok (.list (ds.map .int),.own) s:=by
 induction v with
 |int l=>
  show _=match (if l.length=0 then _ else _:Str ⊕ List Int) with|.inl m=>_|.inr ds=>_
  by_cases hl:l.length=0
  ·rw [if_pos hl,List.length_eq_zero_iff.mp hl];exact gu .nil (by kernel_rfl)
  ·rw [if_neg hl];exact xD d s (.inl rfl) l _ (Nat.lt_of_le_of_lt hv.1 (by decide)) hl
 |qe l=>
  show _=match (if l.length=0 then _ else _:Str ⊕ List Int) with|.inl m=>_|.inr ds=>_
  by_cases hl:l.length=0
  ·rw [if_pos hl,List.length_eq_zero_iff.mp hl];exact gu .nil (by kernel_rfl)
  ·rw [if_neg hl];exact xD d s (.inr rfl) l _ (Nat.lt_of_le_of_lt hv.1 (by decide)) hl
 |dbl l=>
  obtain ⟨o,o2,h⟩:=oO d s (l.map cz) .none l [] none none (by rw [List.length_nil,Nat.zero_add];exact Nat.lt_of_le_of_lt hv.2.1 (by decide));exact run (.t 1 (bN (b:=0) fun q=>hv.1 (List.length_eq_zero_iff.mp (List.length_map (as:=l) cz▸q))) <| .o "for" 0 h .nil) (by kernel_rfl)
 |chr us=>exact gu .nil (by kernel_rfl)
 |lst ps h=>exact gu .nil (by kernel_rfl)
 |nul=>exact absurd rfl hn
end
theorem hU {v:Vl}(hn:v≠.nul):∃(k':Str) (us:List T) (a:T),k'≠"NULL"∧v.t=.vec k' us a:=by
 induction v<;>first|exact absurd rfl hn|exact ⟨_,_,_,by decide +kernel,rfl⟩
theorem PG:("dims [product ":Str).length≤14:=by decide +kernel
theorem PH:("] do not match the length of object [":Str).length≤37:=by decide +kernel
theorem Ji:("]":Str).length≤1:=by decide +kernel
section
variable (d:Nat)(row:Option (List Int)){k:Str}{n:Nat}{ah:List T}{at':oH}(ep:Nat)(O:Ok k n ah at')
include O
theorem eT (x:Str):∃dQ,ae (d+1) "drop_attr" [.self,.str x] (SG row k ah at' ep)=.ok (.none,.val) (SG row k ah (c8 at' x) dQ):=mZ d row k ah at' ep x
theorem d7 (x:Str)(k':Str)(ts:List T)(a:T):∃dQ,ae (d+2) "put_attr" [.self,.str x,.vec k' ts a] (SG row k ah at' ep)=.ok (.none,.val) (SG row k ah (kJ at' x (.vec k' ts a)) dQ):=B7 d row k ah at' ep x k' ts a (Nat.lt_trans O.sz (by decide))
theorem gL (x:Str)(hx:x∈(["dimnames","class","levels","row.names","unit"]:List Str)):jw (ae (d+14) "set_attr" [.self,.str x,.null] (SG row k ah at' ep)) row k ah at' ep (.inr [(x,none)]):=by
 refine (eT (d+12) row ep O x).elim fun dQ e=>?_
 refine gK O.nd ⟨dQ,?_⟩;simp only [List.mem_cons,List.not_mem_nil,or_false] at hx;rcases hx with rfl|rfl|rfl|rfl|rfl<;>exact run (.t 0 (gz O) <| .c 0 e .nil) (by kernel_rfl)
theorem B9 (v:Vl)(hv:v.ok):jw (ae (d+14) "set_attr" [.self,.str "dim",v.t] (SG row k ah at' ep)) row k ah at' ep (jT n v):=by
 by_cases hn:v=.nul
 ·subst hn;obtain ⟨mY,e2⟩:=eT (d+12) row ep O "dim";refine (mZ (d+12) row k ah (c8 at' "dim") mY "dimnames").elim fun Oc e3=>?_
  have EY:=eR at' "dim" O.nd;refine ⟨c8 (c8 at' "dim") "dimnames",Oc,?_,eR _ _ EY,fun y=>?_,?_⟩
  ·exact run (.t 0 (gz O) <| .c 0 e2 <| .c 0 e3 .nil) (by kernel_rfl)
  ·rw [fO,dw,iW _ _ _ EY,iW _ _ _ O.nd];split<;>split<;>rfl
  ·exact Nat.le_succ_of_le (Nat.le_trans (gJ _ _) (gJ _ _))
 ·have he:jT n v=match iq v with
   |.inl m=>.inl m
   |.inr ds=>if cc ds 1=(n:Int) then .inr [("dim",some (.vec "integer" (ds.map .int) .none)),("names",none),("dimnames",none)] else .inl (yS (cc ds 1) n):=by
   induction v<;>first|exact absurd rfl hn|rfl
  rw [he];have hx:=EX (d+11) (SG row k ah at' ep) v hv hn;obtain ⟨k',us,a,dh,e⟩:=hU hn;rw [e] at hx ⊢
  induction hd:iq v with
  |inl m=>
   rw [hd] at hx;exact gu (.t 0 (gz O) <| .t 1 (dF dh) <| .c 0 hx .nil) (by kernel_rfl)
  |inr ds=>
   rw [hd] at hx;obtain ⟨b1,b2,b3⟩:=iX hv hd;obtain ⟨s1,s2⟩:=oL b1 b2;obtain ⟨o,hl⟩:=tV (d+12) (SG row k ah at' ep) .self (.vec k' us a) (.list (ds.map .int)) ds 1 none s1;dsimp only;by_cases hp:cc ds 1=(n:Int)
   ·rw [if_pos hp];have EY:=eR at' "names" O.nd;have Q0:=eR _ "dimnames" EY;have PI:=Nat.le_trans (gJ (c8 at' "names") "dimnames") (gJ at' "names");obtain ⟨Q1,e1⟩:=mZ (d+11) row k ah at' ep "names";obtain ⟨mY,e2⟩:=mZ (d+11) row k ah (c8 at' "names") Q1 "dimnames";obtain ⟨Oc,e3⟩:=B7 (d+10) row k ah (c8 (c8 at' "names") "dimnames") mY "dim" "integer" (ds.map .int) .none (Nat.lt_of_le_of_lt PI (Nat.lt_trans O.sz (by decide)));refine ⟨kJ (c8 (c8 at' "names") "dimnames") "dim" (.vec "integer" (ds.map .int) .none),Oc,?_,oF _ _ _ Q0,fun y=>?_,Nat.le_trans (fK _ _ _) (Nat.succ_le_succ PI)⟩
    ·exact run (.t 0 (gz O) <| .t 1 (dF dh) <| .c 0 hx <| .o "for" 0 hl <| .t 0 (gz O) <| .t 1 (nF (hp.trans (congrArg _ O.len.symm))) <| .c 0 e1 <| .c 0 e2 <| .c 0 e3 .nil) (by kernel_rfl)
    ·rw [fO,fO,dw,xB,iW _ _ _ EY,iW _ _ _ O.nd];split
     ·rfl
     ·split<;>split<;>rfl
   ·rw [if_neg hp];show _=_
    have hs:aO (cc ds 1)=true:=by
     have:=s1 ds.length (Nat.le_refl _)
     rwa [List.take_length] at this
    have f1:=len_app PG (iS s2 (by have:=of_decide_eq_true hs;lia));have f2:=len_app f1 PH;have f3:=len_app f2 (cH (n:=n) (Nat.lt_of_le_of_lt O.n8 (by decide)));have f4:=len_app f3 Ji;have hlen:=O.len;subst hlen;exact gu (.t 0 (gz O) <| .t 1 (dF dh) <| .c 0 hx <| .o "for" 0 hl <| .t 0 (gz O) <| .t 1 (nT hp) <| .p "str" 0 (gv hs) <| .t 0 (fits f1 rfl) <| .t 0 (fits f2 rfl) <| .t 0 (gz O) <| .p "str" 0 (gv (cf (Nat.lt_of_le_of_lt O.n8 (by decide)))) <| .t 0 (fits f3 rfl) <| .t 0 (fits f4 rfl) .nil) (by kernel_rfl)
end
section
variable (d:Nat)(s:Sg)
theorem EZ (n:Nat)(hn:n < 9):ae (d+9) "number_text" [cz n,.int 15] s=.ok (hD (cz n),.val) s:=by
 rcases n with _|_|_|_|_|_|_|_|_|n
 iterate 9 exact (by kernel_rfl)
 exact absurd hn (Nat.not_lt.mpr (Nat.le_add_left 9 n))
noncomputable abbrev v7 (k':Str)(us:List T)(a:T):Ev:=(Lf "label_texts" [some (.vec k' us a),some .none] []).ev
noncomputable abbrev v8:Expr:=gI "label_texts" [] 2 []
theorem E0 (us:List T)(u:T)(h:fR u):lQ (ae (d+10)) (v7 "character" us .none) v8 u s=.ok (u,.val) s:=by
 rcases h with rfl|⟨x,rfl,_⟩<;>exact eC .nil (by kernel_rfl)
theorem E1 (us:List T)(o:Option Int)(h:∀x,o=some x→x.natAbs≤20):lQ (ae (d+10)) (v7 "integer" us .none) v8 (cL o) s=.ok (hI (cL o),.val) s:=by
 induction o with
 |none=>exact eC .nil (by kernel_rfl)
 |some i=>exact eC (.p "str" 0 (fL (i:=i) (dT (Nat.lt_of_le_of_lt (h i rfl) (by decide)))) .nil) (by kernel_rfl)
theorem E2 (us:List T)(o:Option Int)(h:∀x,o=some x→x=0∨x=1):lQ (ae (d+10)) (v7 "logical" us .none) v8 (cL o) s=.ok (hL (cL o),.val) s:=by
 induction o with
 |none=>exact eC .nil (by kernel_rfl)
 |some i=>rcases h i rfl with rfl|rfl<;>exact eC .nil (by kernel_rfl)
theorem E3 (us:List T)(n:Nat)(h:n≤8):lQ (ae (d+10)) (v7 "double" us .none) v8 (cz n) s=.ok (hD (cz n),.val) s:=
 eC (.c 0 (EZ d s n (Nat.lt_succ_of_le h)) .nil) (by kernel_rfl)
theorem kO (k':Str)(us:List T)(f:T→T)(h:∀t∈us,lQ (ae (d+10)) (v7 k' us .none) v8 t s=.ok (f t,.val) s):cK (ae (d+10)) (v7 k' us .none) us .val v8 s=.ok (.list (us.map f),.own) s:=
 comp_map (by kernel_rfl) uy f (fun t _=>by kernel_rfl) fun t ht=>.v (h t ht)
theorem lS (us:List T)(h:∀u∈us,fR u):cK (ae (d+10)) (v7 "character" us .none) us .val v8 s=.ok (.list us,.own) s:=by
 have e:=kO d s "character" us id fun t ht=>E0 d s us t (h t ht)
 rwa [List.map_id] at e
theorem xE (ah:List T)(a:T):∀(PS:List (Option (List T))) (acc:List T) (o:Option T),(∀us,some us∈PS→∀u∈us,fR u)→acc.length+PS.length < 1000→
  ∃o',eh (ae (d+11)) "item" (jD "atomic_labels" [1,1]) (PS.map bh) (Lf "atomic_labels" [some (.vec "list" ah a),some (.str "names"),none,o] [("texts",.list acc,.own)]) s=match fN PS acc with
  |some ws=>.ok (.next,(Lf "atomic_labels" [some (.vec "list" ah a),some (.str "names"),none,o'] [("texts",.list ws,.own)]).ev) s
  |none=>.ct "invalid type (list) to set 'names' attribute" s
 |[],acc,o,_,_=>⟨o,rfl⟩
 |none::r,acc,o,_,_=>⟨o,hA (mA .nil (by kernel_rfl))⟩
 |some []::r,acc,o,_,_=>⟨o,hA (mA .nil (by kernel_rfl))⟩
 |some [u]::r,acc,o,hl,hn=>by
  have hn:acc.length+(r.length+1) < 1000:=hn;obtain ⟨o',h⟩:=xE ah a r (acc++[u]) (some (.vec "character" [u] .none)) (fun us hu=>hl us (.tail _ hu)) (fJ hn);exact ⟨o',aN (aV (.v "[]" 0 (lS d s [u] (hl [u] (.head _))) <| .p "m" 0 (bU acc u (Nat.lt_of_le_of_lt (Nat.le_add_right _ _) hn)) .nil) (by kernel_rfl)) h⟩
 |some (u::u2::us)::r,acc,o,_,_=>⟨o,hA (mA .nil (by kernel_rfl))⟩
theorem v9 (v:Vl)(hv:v.ok)(hn:v≠.nul):ae (d+12) "atomic_labels" [v.t,.str "names"] s=match words v with
   |some ws=>.ok (.list ws,.own) s
   |none=>.ct "invalid type (list) to set 'names' attribute" s:=by
 induction v with
 |chr us=>exact run (.v "[]" 0 (lS d s us hv.2) .nil) (by kernel_rfl)
 |int l=>exact run (.v "[]" 0 (kO d s "integer" (l.map cL) hI fun t ht=>by
   obtain ⟨o,ho,rfl⟩:=List.mem_map.mp ht;exact E1 d s _ o fun x e=>hv.2 x (e▸ho)) .nil) (by kernel_rfl)
 |qe l=>exact run (.v "[]" 0 (kO d s "logical" (l.map cL) hL fun t ht=>by
   obtain ⟨o,ho,rfl⟩:=List.mem_map.mp ht;exact E2 d s _ o fun x e=>hv.2 x (e▸ho)) .nil) (by kernel_rfl)
 |dbl l=>exact run (.v "[]" 0 (kO d s "double" (l.map cz) hD fun t ht=>by
   obtain ⟨n,ho,rfl⟩:=List.mem_map.mp ht;exact E3 d s _ n (hv.2.2 n ho)) .nil) (by kernel_rfl)
 |lst ps h=>
  obtain ⟨o,q⟩:=xE d s (ps.map bh) (bq h) ps [] none (fun us hu=>(hv.2.1 us hu).2) (by rw [List.length_nil,Nat.zero_add];exact Nat.lt_of_le_of_lt hv.1 (by decide));show _=match fN ps [] with|some ws=>_|none=>_
  induction hw:fN ps [] with
  |none=>rw [hw] at q;exact gu (.x "for" 0 q .nil) (by kernel_rfl)
  |some ws=>rw [hw] at q;exact run (.o "for" 0 q .nil) (by kernel_rfl)
 |nul=>exact absurd rfl hn
end
theorem tW (ts:List T)(u:T)(m:Nat):ts++List.replicate (m+1) u=(ts++[u])++List.replicate m u:=by
 rw [List.append_assoc,List.replicate_succ];rfl
section
variable (d:Nat)(s:Sg)
theorem qh (v value:T)(c:Nat)(hc:c < 1000):∀(m n:Nat) (ts:List T),ts.length+m=c→m < n→
  IH (ae d) (gI "set_name_value" [] 5 []) (jD "set_name_value" [5]) n (Lf "set_name_value" [some v,some value,none,some (.int c)] [("texts",.list ts,.own)]) s=.ok (.next,(Lf "set_name_value" [some v,some value,none,some (.int c)] [("texts",.list (ts++List.replicate m .none),.own)]).ev) s
 |0,n+1,ts,h,_=>by
  rw [List.replicate_zero,List.append_nil];exact B4 (EP (.t 0 (fM (Nat.le_of_eq h.symm)) .nil) (by kernel_rfl))
 |m+1,n+1,ts,h,hn=>by
  have hl:ts.length < c:=h▸Nat.lt_add_of_pos_right (Nat.succ_pos m);rw [tW];exact xy (EP (.t 0 (iT hl) .nil) (by kernel_rfl)) (aV (.p "m" 0 (bU ts .none (Nat.lt_trans hl hc)) .nil) (by kernel_rfl)) (qh v value c hc m n (ts++[.none]) (by rw [List.length_append,←h];exact Nat.add_right_comm _ _ _) (Nat.lt_of_succ_lt_succ hn))
end
section
variable (d:Nat)(row:Option (List Int)){k:Str}{n:Nat}{ah:List T}{at':oH}(ep:Nat)(O:Ok k n ah at')
include O
theorem IL:∃dQ,ae (d+3) "set_names" [.self,.none] (SG row k ah at' ep)=.ok (.none,.val) (SG row k ah (c8 at' (nameKey (cw at'))) dQ):=by
 have hd:=hO (d:=d) (row:=row) (ep:=ep) O;unfold nameKey iU
 induction h:eS (cw at') with
 |none=>
  rw [h] at hd;obtain ⟨dQ,e⟩:=eT (d+1) row ep O "names";exact ⟨dQ,run (.t 0 (dF O.nul.2.1) <| .c 0 hd <| .c 0 e .nil) (by kernel_rfl)⟩
 |some ds=>
  rw [h] at hd;dsimp only;by_cases h1:ds.length=1
  ·rw [if_pos (dT h1)];obtain ⟨dQ,e⟩:=eT (d+1) row ep O "dimnames";exact ⟨dQ,run (.t 0 (dF O.nul.2.1) <| .c 0 hd <| .t 1 (ff h1) <| .c 0 e .nil) (by kernel_rfl)⟩
  ·rw [if_neg (dN h1)];obtain ⟨dQ,e⟩:=eT (d+1) row ep O "names";exact ⟨dQ,run (.t 0 (dF O.nul.2.1) <| .c 0 hd <| .t 1 (bN h1) <| .c 0 e .nil) (by kernel_rfl)⟩
theorem E4 (ts:List T):∃dQ,ae (d+3) "set_names" [.self,.list ts] (SG row k ah at' ep)=.ok (.none,.val) (SG row k ah (kJ at' (nameKey (cw at')) (fw (cw at') ts)) dQ):=by
 have hd:=hO (d:=d) (row:=row) (ep:=ep) O;unfold nameKey fw iU
 induction h:eS (cw at') with
 |none=>
  rw [h] at hd;obtain ⟨dQ,e⟩:=d7 d row ep O "names" "character" ts .none;exact ⟨dQ,run (.t 0 (dF O.nul.2.1) <| .c 0 hd <| .c 0 e .nil) (by kernel_rfl)⟩
 |some ds=>
  rw [h] at hd;dsimp only;by_cases h1:ds.length=1
  ·rw [if_pos (dT h1),if_pos (dT h1)];obtain ⟨dQ,e⟩:=d7 d row ep O "dimnames" "list" [.vec "character" ts .none] .none;exact ⟨dQ,run (.t 0 (dF O.nul.2.1) <| .c 0 hd <| .t 1 (ff h1) <| .c 0 e .nil) (by kernel_rfl)⟩
  ·rw [if_neg (dN h1),if_neg (dN h1)];obtain ⟨dQ,e⟩:=d7 d row ep O "names" "character" ts .none;exact ⟨dQ,run (.t 0 (dF O.nul.2.1) <| .c 0 hd <| .t 1 (bN h1) <| .c 0 e .nil) (by kernel_rfl)⟩
end
theorem PJ:("'names' attribute [":Str).length≤19:=by decide +kernel
theorem PK:("] must be the same length as the vector [":Str).length≤42:=by decide +kernel
theorem iY {lk:Lk}{n:Nat}{v:Vl}(hv:v≠.nul):iV lk n v=match words v with
  |none=>.inl "invalid type (list) to set 'names' attribute"
  |some ws=>if n < ws.length then .inl (B5 ws.length n) else .inr [(nameKey lk,some (fw lk (ws++List.replicate (n - ws.length) .none)))]:=by
 induction v<;>first|exact absurd rfl hv|rfl
section
variable (d:Nat)(row:Option (List Int)){k:Str}{ah:List T}{at':oH}(ep:Nat)(O:Ok k ah.length ah at'){k':Str}{us:List T}{a:T}(dh:k'≠"NULL")
include O dh
theorem yU {m:Str}(h:ae (d+12) "atomic_labels" [.vec k' us a,.str "names"] (SG row k ah at' ep)=.ct m (SG row k ah at' ep)):ae (d+14) "set_attr" [.self,.str "names",.vec k' us a] (SG row k ah at' ep)=.ct m (SG row k ah at' ep):=
 gu (.t 0 (gz O) <| .t 2 (dF dh) <| .c 0 h .nil) (by kernel_rfl)
theorem wa {ws:List T}(h:ae (d+12) "atomic_labels" [.vec k' us a,.str "names"] (SG row k ah at' ep)=.ok (.list ws,.own) (SG row k ah at' ep))(hl:ah.length < ws.length)(hw:ws.length < 20):ae (d+14) "set_attr" [.self,.str "names",.vec k' us a] (SG row k ah at' ep)=.ct (B5 ws.length ah.length) (SG row k ah at' ep):=by
 have f1:=len_app PJ (cH (n:=ws.length) (Nat.lt_trans hw (by decide)));have f2:=len_app f1 PK;have f3:=len_app f2 (cH (n:=ah.length) (Nat.lt_trans (Nat.lt_trans hl hw) (by decide)));have f4:=len_app f3 Ji;exact gu (.t 0 (gz O) <| .t 2 (dF dh) <| .c 0 h <| .t 0 (gz O) <| .t 1 (iT hl) <| .p "str" 0 (gv (cf (Nat.lt_trans hw (by decide)))) <| .t 0 (fits f1 rfl) <| .t 0 (fits f2 rfl) <| .p "str" 0 (gv (cf (Nat.lt_trans (Nat.lt_trans hl hw) (by decide)))) <| .t 0 (fits f3 rfl) <| .t 0 (fits f4 rfl) .nil) (by kernel_rfl)
theorem wb {ws:List T}(h:ae (d+12) "atomic_labels" [.vec k' us a,.str "names"] (SG row k ah at' ep)=.ok (.list ws,.own) (SG row k ah at' ep))(hl:ws.length≤ah.length):∃dQ,ae (d+14) "set_attr" [.self,.str "names",.vec k' us a] (SG row k ah at' ep)=.ok (.none,.val) (SG row k ah (kJ at' (nameKey (cw at')) (fw (cw at') (ws++List.replicate (ah.length - ws.length) .none))) dQ):=by
 refine (E4 (d+9) row ep O (ws++List.replicate (ah.length - ws.length) .none)).elim fun dQ e=>?_
 exact ⟨dQ,run (.t 0 (gz O) <| .t 2 (dF dh) <| .c 0 h <| .t 0 (gz O) <| .t 1 (fM hl) <| .o "while" 0 (qh (d+12) (SG row k ah at' ep) .self (.vec k' us a) ah.length (Nat.lt_of_le_of_lt O.n8 (by decide)) (ah.length - ws.length) 40 ws (Nat.add_sub_cancel' hl) (Nat.lt_of_le_of_lt (Nat.sub_le _ _) (Nat.lt_of_le_of_lt O.n8 (by decide)))) <| .c 0 e .nil) (by kernel_rfl)⟩
end
theorem wc (d:Nat)(row:Option (List Int)){k:Str}{n:Nat}{ah:List T}{at':oH}(ep:Nat)(O:Ok k n ah at')(v:Vl)(hv:v.ok):jw (ae (d+14) "set_attr" [.self,.str "names",v.t] (SG row k ah at' ep)) row k ah at' ep (iV (cw at') n v):=by
 obtain rfl:=O.len;by_cases hn:v=.nul
 ·subst hn;obtain ⟨dQ,e⟩:=IL (d+9) row ep O;exact gK O.nd ⟨dQ,run (.t 0 (gz O) <| .c 0 e .nil) (by kernel_rfl)⟩
 ·have hl:=v9 d (SG row k ah at' ep) v hv hn;rw [iY hn];obtain ⟨k',us,a,dh,e⟩:=hU hn;rw [e] at hl ⊢
  cases hw:words v with
  |none=>
   rw [hw] at hl;exact yU d row ep O dh hl
  |some ws=>
   rw [hw] at hl;show jw _ _ _ _ _ _ (if ah.length < ws.length then _ else _);by_cases hc:ah.length < ws.length
   ·rw [if_pos hc];exact wa d row ep O dh hl hc (qf hv hw)
   ·rw [if_neg hc];exact cN O.nd (wb d row ep O dh hl (Nat.le_of_not_lt hc))
theorem tX {us:List T}(h:∀u∈us,fR u):us.all fV=true:=
 List.all_eq_true.mpr fun u hu=>by rcases h u hu with rfl|⟨x,rfl,_⟩<;>rfl
theorem jm {x:Str}{us:List T}(h:us.all fV=true)(s:Sg):(fi .In (.str x,.val) (.list us)>>=val) s=.ok (.bool (us.any (qA x)),.val) s:=by
 have e:fi .In (.str x,.val) (.list us) s=.ok (.bool (us.any (qA x))) s:=by
  show (match (if us.all fV=true then some (us.any (qA x)) else none) with
   |some r=>(Res.ok (T.bool r) s:Res T)
   |none=>.stuck)=_
  rw [if_pos h]
 exact bf e
theorem list_range (n:Nat)(h:n < 900)(s:Sg):dX "list" [.range 1 ((n:Int)+1)] s=.ok (.list ((dz 1 ((n:Int)+1)).map .int),.own) s:=by
 show (if (aO 1&&aO ((n:Int)+1)&&decide ((n:Int)+1 - 1≤(aq:Int)))=true then k4 (.list ((dz 1 ((n:Int)+1)).map .int)) else stuck) s=_;rw [show aO 1=true from by decide,eD (Nat.lt_trans h (by decide)),dT (show (n:Int)+1 - 1≤(aq:Int) from by unfold aq;lia)];rfl
theorem PL:("factor level [":Str).length≤14:=by decide +kernel
theorem PM:("] is duplicated":Str).length≤15:=by decide +kernel
theorem eq1:("=":Str).length≤1:=by decide +kernel
section
variable (d:Nat)(row:Option (List Int)){k:Str}{n:Nat}{ah:List T}{at':oH}(ep:Nat)(O:Ok k n ah at')
include O
theorem wd (v:Vl)(hv:v.ok):jw (ae (d+14) "set_attr" [.self,.str "class",v.t] (SG row k ah at' ep)) row k ah at' ep (kN k v):=by
 induction v with
 |nul=>exact gL d row ep O "class" (.tail _ (.head _))
 |chr us=>
  have GB:=tX hv.2;obtain ⟨e1,q1⟩:=eT (d+11) row ep O "class";obtain ⟨e2,q2⟩:=d7 (d+10) row ep O "class" "character" us .none;show jw _ _ _ _ _ _ (if us.length=0 then _ else if us.any (qA "factor")=true∧k≠"integer" then _ else _);by_cases h0:us.length=0
  ·rw [if_pos h0];exact gK O.nd ⟨e1,run (.t 0 (gz O) <| .t 6 (ff (b:=0) h0) <| .c 0 q1 .nil) (by kernel_rfl)⟩
  ·rw [if_neg h0];by_cases hc:us.any (qA "factor")=true∧k≠"integer"
   ·rw [if_pos hc];exact gu (.t 0 (gz O) <| .t 6 (bN (b:=0) h0) <| .p "c" 0 (jm (x:="factor") GB) <| .t 0 hc.1 <| .t 0 (nT hc.2) .nil) (by kernel_rfl)
   ·rw [if_neg hc];refine cN O.nd ⟨e2,?_⟩;by_cases hb:us.any (qA "factor")=true
    ·exact run (.t 0 (gz O) <| .t 6 (bN (b:=0) h0) <| .p "c" 0 (jm (x:="factor") GB) <| .t 0 hb <| .t 0 (nF (Classical.byContradiction fun q=>hc ⟨hb,q⟩)) <| .c 0 q2 .nil) (by kernel_rfl)
    ·exact run (.t 0 (gz O) <| .t 6 (bN (b:=0) h0) <| .p "c" 0 (jm (x:="factor") GB) <| .t 0 (Bool.eq_false_iff.mpr hb) <| .c 0 q2 .nil) (by kernel_rfl)
 |_=>exact gu (.t 0 (gz O) .nil) (by kernel_rfl)
theorem tY {k':Str}(hk:k'="logical"∨k'="list")(us:List T)(a:T):ae (d+14) "set_attr" [.self,.str "row.names",.vec k' us a] (SG row k ah at' ep)=.ct ("row names must be 'character' or 'integer', not '"++k'++"'") (SG row k ah at' ep):=by
 rcases hk with rfl|rfl<;>exact gu (.t 0 (gz O) .nil) (by kernel_rfl)
theorem Ca (l:List (Option Int))(hx:∀x,some x∈l→x.natAbs≤20):∃dQ,ae (d+14) "set_attr" [.self,.str "row.names",.vec "integer" (l.map cL) .none] (SG row k ah at' ep)=.ok (.none,.val) (SG row k ah (kJ at' "row.names" (.vec "integer" (pq l) .none)) dQ):=by
 refine (d7 (d+10) row ep O "row.names" "integer" (pq l) .none).elim fun dQ e=>?_
 refine ⟨dQ,?_⟩
 have other (h:decide (((l.map cL).length:Int)=2)=false) (hr:pq l=l.map cL):ae (d+14) "set_attr" [.self,.str "row.names",.vec "integer" (l.map cL) .none] (SG row k ah at' ep)=.ok (.none,.val) (SG row k ah (kJ at' "row.names" (.vec "integer" (pq l) .none)) dQ):=by
  rw [hr] at e ⊢;exact run (.t 0 (gz O) <| .t 10 h <| .c 0 e .nil) (by kernel_rfl)
 rcases l with _|⟨p,_|⟨q,_|⟨w,l⟩⟩⟩
 ·exact other rfl rfl
 ·exact other rfl (by induction p<;>rfl)
 ·induction p with
  |some x=>exact run (.t 0 (gz O) <| .c 0 e .nil) (by kernel_rfl)
  |none=>
   induction q with
   |none=>exact run (.t 0 (gz O) <| .c 0 e .nil) (by kernel_rfl)
   |some x=>
    have hx:=hx x (.tail _ (.head _));have hm:decide ((1000000:Int) < (x.natAbs:Int))=false:=dF (by lia);exact run (.t 0 (gz O) <| .t 13 hm <| .p "list" 0 (list_range (x.natAbs) (Nat.lt_of_le_of_lt hx (by decide))) <| .c 0 e .nil) (by kernel_rfl)
 ·exact other (bN (b:=2) (by simp)) (by cases p<;>cases q<;>rfl)
theorem yV (v:Vl):jw (ae (d+14) "set_attr" [.self,.str "unit",v.t] (SG row k ah at' ep)) row k ah at' ep (hM v):=by
 by_cases hn:v=.nul
 ·subst hn;exact gL d row ep O "unit" (.tail _ (.tail _ (.tail _ (.tail _ (.head _)))))
 ·obtain ⟨k',us,a,dh,e⟩:=hU hn;obtain ⟨dQ,q⟩:=d7 (d+11) row ep O "unit" k' us a;have he:hM v=.inr [("unit",some v.t)]:=by induction v<;>first|exact absurd rfl hn|rfl
  rw [he,e];exact cN O.nd ⟨dQ,run (.t 0 (gz O) <| .t 1 (dF dh) <| .c 0 q .nil) (by kernel_rfl)⟩
theorem Cb (l:List Nat):∃dQ,ae (d+14) "set_attr" [.self,.str "row.names",.vec "double" (l.map cz) .none] (SG row k ah at' ep)=.ok (.none,.val) (SG row k ah (kJ at' "row.names" (.vec "integer" (l.map fun _=>.none) .none)) dQ):=by
 refine (d7 (d+10) row ep O "row.names" "integer" (l.map fun _=>.none) .none).elim fun dQ e=>?_
 refine ⟨dQ,?_⟩
 have q:=comp_map (G:=ae (d+12)) (L:=(Lf "set_row_names" [some .self,some (.vec "double" (l.map cz) .none),some (.list (l.map cz))] []).ev) (e:=gI "set_row_names" [3] 0 [0]) (l:=l.map cz) (k:=.val) (s:=SG row k ah at' ep) (by kernel_rfl) uy (fun _=>.none) (fun t _=>by kernel_rfl) fun t ht=>.v (by
  obtain ⟨n,_,rfl⟩:=List.mem_map.mp ht;exact eC .nil (by kernel_rfl))
 rw [List.map_map] at q
 have other (h:decide (((l.map fun _=>T.none).length:Int)=2)=false):ae (d+14) "set_attr" [.self,.str "row.names",.vec "double" (l.map cz) .none] (SG row k ah at' ep)=.ok (.none,.val) (SG row k ah (kJ at' "row.names" (.vec "integer" (l.map fun _=>.none) .none)) dQ):=by
  exact run (.t 0 (gz O) <| .v "[]" 0 q <| .t 0 h <| .c 0 e .nil) (by kernel_rfl)
 rcases l with _|⟨p,_|⟨q',_|⟨w,l⟩⟩⟩
 ·exact other rfl
 ·exact other rfl
 ·exact run (.t 0 (gz O) <| .v "[]" 0 q <| .c 0 e .nil) (by kernel_rfl)
 ·exact other (bN (b:=2) (by simp))
theorem yW (v:Vl)(hv:v.ok):jw (ae (d+14) "set_attr" [.self,.str "row.names",v.t] (SG row k ah at' ep)) row k ah at' ep (mX v):=by
 induction v with
 |nul=>exact gL d row ep O "row.names" (.tail _ (.tail _ (.tail _ (.head _))))
 |chr us=>
  refine (d7 (d+10) row ep O "row.names" "character" us .none).elim fun dQ e=>?_
  exact cN O.nd ⟨dQ,run (.t 0 (gz O) <| .c 0 e .nil) (by kernel_rfl)⟩
 |int l=>exact cN O.nd (Ca d row ep O l hv.2)
 |dbl l=>exact cN O.nd (Cb d row ep O l)
 |qe l=>exact tY d row ep O (.inl rfl) _ _
 |lst ps h=>exact tY d row ep O (.inr rfl) _ _
theorem fy {k':Str}(h1:k'≠"NULL")(h2:k'≠"character")(us:List T)(a:T):∃dQ,ae (d+14) "set_attr" [.self,.str "levels",.vec k' us a] (SG row k ah at' ep)=.ok (.none,.val) (SG row k ah (kJ at' "levels" (.vec k' us a)) dQ):=by
 refine (d7 (d+10) row ep O "levels" k' us a).elim fun dQ e=>?_
 exact ⟨dQ,run (.t 0 (gz O) <| .t 1 (dF h1) <| .t 4 (dF h2) <| .c 0 e .nil) (by kernel_rfl)⟩
omit O in
theorem tZ (s:Sg)(v:T)(us:List T)(hn:us.length < 900):∀(todo done:List T) (es:List (Str×T)) (o o2:Option T),us=done++todo→(∀u∈todo,fR u)→(∀κ,(es.lookup κ).isSome=done.any fun w=>decide (fe w=κ))→es.length≤done.length→
  ∃o' jZ lg,eh (ae d) "place" (jD "set_levels" [0,1]) ((List.range' done.length todo.length).map fun i:Nat=>T.int (i:Int)) (Lf "set_levels" [some v,some (.vec "character" us .none),none,o,o2] [("seen",.dict es,.own)]) s=match kK done todo with
   |some i=>.ct (yR i) s
   |none=>.ok (.next,(Lf "set_levels" [some v,some (.vec "character" us .none),none,o',jZ] [("seen",.dict lg,.own)]).ev) s
 |[],done,es,o,o2,_,_,_,_=>⟨o,o2,es,rfl⟩
 |u::r,done,es,o,o2,e,hl,he,hz=>by
  have hu:us[done.length]?=some u:=by rw [e];exact List.getElem?_append_right (Nat.le_refl _) |>.trans (by rw [Nat.sub_self];rfl)
  have hd:done.length < 900:=Nat.lt_of_le_of_lt (by rw [e,List.length_append];exact Nat.le_add_right _ _) hn;have wg:=he (fe u);have eZ:decide (es.length < aq)=true:=dT (Nat.lt_of_le_of_lt hz (Nat.lt_trans hd (by decide)));rw [xA];by_cases hb:(done.any fun w=>decide (fe w=fe u))=true
  ·rw [if_pos hb];have f1:=len_app PL (cH (n:=done.length+1) (Nat.lt_trans (Nat.succ_lt_succ hd) (by decide)));have f2:=len_app f1 PM;refine ⟨o,o2,es,hA ?_⟩;rcases hl u (.head _) with rfl|⟨x,rfl,hx⟩
   ·exact mA (.p "i" 0 (bl hu) <| .t 1 (wg.trans hb) <| .p "str" 0 (gv (eD (Nat.lt_trans hd (by decide)))) <| .t 0 (fits f1 rfl) <| .t 0 (fits f2 rfl) .nil) (by kernel_rfl)
   ·exact mA (.p "i" 0 (bl hu) <| .p "i" 0 (bl hu) <| .p "+" 0 (cG (len_app eq1 hx) rfl) <| .t 0 (wg.trans hb) <| .p "str" 0 (gv (eD (Nat.lt_trans hd (by decide)))) <| .t 0 (fits f1 rfl) <| .t 0 (fits f2 rfl) .nil) (by kernel_rfl)
  ·rw [if_neg hb];have hb:=Bool.eq_false_iff.mpr hb
   have ih:=fun o o2=>tZ s v us hn r (done++[u]) (dput es (fe u) (.bool true)) o o2 (by rw [e,List.append_assoc];rfl) (fun u hu=>hl u (.tail _ hu)) (fun κ=>by
    rw [eQ,List.any_append];show _=(_||(decide (fe u=κ)||false));rw [Bool.or_false];by_cases h:κ=fe u
    ·rw [if_pos h,dT h.symm,Bool.or_true];rfl
    ·rw [if_neg h,dF (fun q=>h q.symm),Bool.or_false];exact he κ) (by rw [List.length_append];exact Nat.le_trans (fK _ _ _) (Nat.succ_le_succ hz))
   rw [List.length_append] at ih;rcases hl u (.head _) with rfl|⟨x,rfl,hx⟩
   ·obtain ⟨o',jZ,lg,h⟩:=ih (some (.int done.length)) (some (.str "?"));exact ⟨o',jZ,lg,aN (aV (.p "i" 0 (bl hu) <| .t 1 (wg.trans hb) <| .t 0 eZ .nil) (by kernel_rfl)) h⟩
   ·obtain ⟨o',jZ,lg,h⟩:=ih (some (.int done.length)) (some (.str ("="++x)));exact ⟨o',jZ,lg,aN (aV (.p "i" 0 (bl hu) <| .p "i" 0 (bl hu) <| .p "+" 0 (cG (len_app eq1 hx) rfl) <| .t 0 (wg.trans hb) <| .t 0 eZ .nil) (by kernel_rfl)) h⟩
theorem t6 (v:Vl)(hv:v.ok):jw (ae (d+14) "set_attr" [.self,.str "levels",v.t] (SG row k ah at' ep)) row k ah at' ep (jk v):=by
 induction v with
 |nul=>exact gL d row ep O "levels" (.tail _ (.tail _ (.head _)))
 |chr us=>
  have hl:us.length < 900:=Nat.lt_of_le_of_lt hv.1 (by decide);obtain ⟨o,o2,es,h⟩:=tZ (d+12) (SG row k ah at' ep) .self us hl us [] [] none none rfl hv.2 (fun _=>rfl) (Nat.le_refl _);obtain ⟨dQ,e⟩:=d7 (d+10) row ep O "levels" "character" us .none;show jw _ _ _ _ _ _ (match kK [] us with|some i=>_|none=>_)
  induction hd:kK [] us with
  |some i=>rw [hd] at h;exact gu (.t 0 (gz O) <| .l 0 (aQ (Nat.lt_trans hl (by decide))) <| .x "for" 0 h .nil) (by kernel_rfl)
  |none=>rw [hd] at h;exact cN O.nd ⟨dQ,run (.t 0 (gz O) <| .l 0 (aQ (Nat.lt_trans hl (by decide))) <| .o "for" 0 h <| .c 0 e .nil) (by kernel_rfl)⟩
 |int l=>exact cN O.nd (fy d row ep O (by decide +kernel) (by decide +kernel) _ _)
 |dbl l=>exact cN O.nd (fy d row ep O (by decide +kernel) (by decide +kernel) _ _)
 |qe l=>exact cN O.nd (fy d row ep O (by decide +kernel) (by decide +kernel) _ _)
 |lst ps h=>exact cN O.nd (fy d row ep O (by decide +kernel) (by decide +kernel) _ _)
end
theorem bZ {α:Type}{l r:List α}{i:Nat}{x:α}(h:l.drop i=x::r):l[i]?=some x∧l.drop (i+1)=r∧i < l.length:=by
 have hi:i < l.length:=Nat.lt_of_not_le fun q=>by rw [List.drop_eq_nil_of_le q] at h;exact nomatch h
 rw [List.drop_eq_getElem_cons hi] at h;exact ⟨(List.getElem?_eq_getElem hi).trans (congrArg some (List.cons.inj h).1),(List.cons.inj h).2,hi⟩
theorem cA {α:Type}{l:List α}{f:α→T}{i:Nat}{x:α}(h:l[i]?=some x):(l.map f)[i]?=some (f x):=by
 rw [List.getElem?_map,h];rfl
theorem L8:("length of 'dimnames' [":Str).length≤22:=by decide +kernel
theorem PN:("] not equal to array extent":Str).length≤27:=by decide +kernel
theorem PO:("] must match that of 'dims' [":Str).length≤29:=by decide +kernel
theorem t7 (acc:List T)(t:T):(acc++[t]).any lh=(acc.any lh||lh t):=by
 refine Eq.trans List.any_append ?_;show (_||(_||false))=_;rw [Bool.or_false]
theorem rJ (acc:List T):(acc++[T.null]).any lh=acc.any lh:=(t7 acc .null).trans (Bool.or_false _)
theorem E5 (acc:List T)(k:Str)(us:List T)(a:T):(acc++[T.vec k us a]).any lh=true:=(t7 acc _).trans (Bool.or_true _)
theorem iZ (p:Option (List T))(ps:List (Option (List T)))(e:Int)(r:List Int)(i:Nat)(acc:List T):rH (p::ps) (e::r) i acc=match kL p e i with
  |.inl m=>.inl m
  |.inr t=>rH ps r (i+1) (acc++[IK t]):=rfl
section
variable (d:Nat)(s:Sg)
noncomputable abbrev Jj (value ds ps:T)(acc:List T)(o o2:Option T):Lv:=Lf "set_dimnames" [some .self,some value,some ds,some ps,none,some (.bool (acc.any lh)),o,o2] [("checked",.vec "list" acc .none,.bg)]
theorem m5 (value:T)(PS:List (Option (List T)))(DS:List Int)(lU:∀us,some us∈PS→∀u∈us,fR u)(eZ:DS.length < 900):∀(ds:List Int) (ps:List (Option (List T))) (i:Nat) (acc:List T) (o o2:Option T),acc.length=i→DS.drop i=ds→PS.drop i=ps→
  ∃o' jZ,eh (ae (d+13)) "place" (jD "set_dimnames" [8]) ((List.range' i ds.length).map fun i:Nat=>T.int (i:Int)) (Jj value (.list (DS.map .int)) (.list (PS.map bh)) acc o o2) s=match rH ps ds i acc with
   |.inl m=>.ct m s
   |.inr cO=>.ok (.next,(Jj value (.list (DS.map .int)) (.list (PS.map bh)) cO o' jZ).ev) s
 |[],ps,i,acc,o,o2,_,_,_=>⟨o,o2,by induction ps<;>rfl⟩
 |e::r,[],i,acc,o,o2,ha,hd,hp=>by
  have he:=(bZ hd).1;have hr:=(bZ hd).2.1;have hi:=(bZ hd).2.2;obtain ⟨o',jZ,h⟩:=m5 value PS DS lU eZ r [] (i+1) (acc++[.null]) (some (.int i)) (some .null) (by rw [List.length_append,ha];rfl) hr (List.drop_eq_nil_of_le (Nat.le_succ_of_le (List.drop_eq_nil_iff.mp hp)));unfold Jj at h;rw [rJ] at h;exact ⟨o',jZ,aN (aV (.t 0 (K7 (List.length_map (as:=PS) bh▸List.drop_eq_nil_iff.mp hp)) <| .p "i" 0 (bl (cA (f:=T.int) he)) <| .t 3 (dT (p:=acc.length < aq) (ha▸Nat.lt_trans hi (Nat.lt_trans eZ (by decide)))) .nil) (by kernel_rfl)) h⟩
 |e::r,p::ps,i,acc,o,o2,ha,hd,hp=>by
  have he:=(bZ hd).1;have hr:=(bZ hd).2.1;have hi:=(bZ hd).2.2;have hq:=(bZ hp).1;have jU:=(bZ hp).2.1;have L7:=(bZ hp).2.2;have ih:=fun t o=>m5 value PS DS lU eZ r ps (i+1) (acc++[t]) (some (.int i)) o (by rw [List.length_append,ha];rfl) hr jU
  have hle:decide (((PS.map bh).length:Int)≤(i:Int))=false:=K8 (List.length_map (as:=PS) bh▸L7);have Cc:decide (acc.length < aq)=true:=dT (ha▸Nat.lt_trans hi (Nat.lt_trans eZ (by decide)));have Lb:i < 900:=Nat.lt_trans hi eZ
  induction p with
  |none=>
   obtain ⟨o',jZ,h⟩:=ih .null (some .null);unfold Jj at h;rw [rJ] at h;exact ⟨o',jZ,aN (aV (.t 0 hle <| .p "i" 0 (bl (cA (f:=bh) hq)) <| .p "i" 0 (bl (cA (f:=T.int) he)) <| .t 3 Cc .nil) (by kernel_rfl)) h⟩
  |some us=>
   have hl:=lS d s us (lU us (List.mem_of_getElem? hq))
   cases us with
   |nil=>
    obtain ⟨o',jZ,h⟩:=ih .null (some .null);unfold Jj at h;rw [rJ] at h;have e1:kL (some []) e i=.inr (.vec "character" [] .none):=if_neg fun q=>absurd q.2 (by decide)
    rw [iZ,e1];refine ⟨o',jZ,?_⟩;by_cases hz:((0:Nat):Int)=e
    ·exact aN (aV (.t 0 hle <| .p "i" 0 (bl (cA (f:=bh) hq)) <| .p "i" 0 (bl (cA (f:=T.int) he)) <| .v "[]" 0 hl <| .t 0 (nF hz) <| .t 3 Cc .nil) (by kernel_rfl)) h
    ·exact aN (aV (.t 0 hle <| .p "i" 0 (bl (cA (f:=bh) hq)) <| .p "i" 0 (bl (cA (f:=T.int) he)) <| .v "[]" 0 hl <| .t 0 (nT hz) <| .t 4 Cc .nil) (by kernel_rfl)) h
   |cons u us=>
    rw [iZ];by_cases hz:((u::us).length:Int)=e
    ·obtain ⟨o',jZ,h⟩:=ih (.vec "character" (u::us) .none) (some (.vec "character" (u::us) .none));unfold Jj at h;rw [E5] at h;have e1:kL (some (u::us)) e i=.inr (.vec "character" (u::us) .none):=if_neg fun q=>q.1 hz
     rw [e1];exact ⟨o',jZ,aN (aV (.t 0 hle <| .p "i" 0 (bl (cA (f:=bh) hq)) <| .p "i" 0 (bl (cA (f:=T.int) he)) <| .v "[]" 0 hl <| .t 0 (nF hz) <| .t 3 Cc .nil) (by kernel_rfl)) h⟩
    ·have e1:kL (some (u::us)) e i=.inl (EU i):=if_pos ⟨hz,Nat.succ_pos _⟩;rw [e1];have f1:=len_app L8 (cH (n:=i+1) (Nat.lt_trans (Nat.succ_lt_succ Lb) (by decide)));have f2:=len_app f1 PN;exact ⟨o,o2,hA (mA (.t 0 hle <| .p "i" 0 (bl (cA (f:=bh) hq)) <| .p "i" 0 (bl (cA (f:=T.int) he)) <| .v "[]" 0 hl <| .t 0 (nT hz) <| .t 0 (iT (a:=0) (b:=(u::us).length) (Nat.succ_pos us.length)) <| .p "str" 0 (gv (eD (Nat.lt_trans Lb (by decide)))) <| .t 0 (fits f1 rfl) <| .t 0 (fits f2 rfl) .nil) (by kernel_rfl))⟩
theorem qi (value ck:T)(b:T)(ds ps:T)(dl:List T)(Od:ds=.list dl)(o o2 hd:Option T)(hc:dl.length < 1000):∀(m n:Nat) (ts:List T),ts.length+m=dl.length→m < n→
  IH (ae d) (gI "set_dimnames" [10] 1 []) (jD "set_dimnames" [10,1]) n (Lf "set_dimnames" [some .self,some value,some ds,some ps,none,some b,o,o2,hd] [("texts",.list ts,.own),("checked",ck,.bg)]) s=.ok (.next,(Lf "set_dimnames" [some .self,some value,some ds,some ps,none,some b,o,o2,hd] [("texts",.list (ts++List.replicate m (.str "")),.own),("checked",ck,.bg)]).ev) s
 |0,n+1,ts,h,_=>by
  subst Od;rw [List.replicate_zero,List.append_nil];exact B4 (EP (.t 0 (fM (Nat.le_of_eq h.symm)) .nil) (by kernel_rfl))
 |m+1,n+1,ts,h,hn=>by
  have hl:ts.length < dl.length:=h▸Nat.lt_add_of_pos_right (Nat.succ_pos m);have ih:=qi value ck b ds ps dl Od o o2 hd hc m n (ts++[.str ""]) (by rw [List.length_append,←h];exact Nat.add_right_comm _ _ _) (Nat.lt_of_succ_lt_succ hn);subst Od;rw [tW];exact xy (EP (.t 0 (iT hl) .nil) (by kernel_rfl)) (aV (.p "m" 0 (bU ts (.str "") (Nat.lt_trans hl hc)) .nil) (by kernel_rfl)) ih
end
theorem jV {lk:Lk}{v:Vl}(hn:v≠.nul):jj lk v=match eS lk with
   |none=>.inl "'dimnames' applied to non-array"
   |some ds=>match v with
    |.lst ps h=>if ps.length=0 then .inr [("dimnames",none)] else if ds.length < ps.length then .inl (v5 ps.length ds.length) else
     (match rH ps (kM ds) 0 [] with
     |.inl m=>.inl m
     |.inr acc=>if (h.isSome||acc.any lh)=true then .inr [("dimnames",some (.vec "list" acc (bq (rI h ds.length))))] else .inr [("dimnames",none)])
    |_=>.inl "'dimnames' must be a list":=by
 induction v<;>first|exact absurd rfl hn|rfl
section
variable (d:Nat)(row:Option (List Int)){k:Str}{n:Nat}{ah:List T}{at':oH}(ep:Nat)(O:Ok k n ah at')
include O
theorem E6 {k':Str}(dh:k'≠"NULL")(us:List T)(a:T)(h:eS (cw at')=none):ae (d+15) "set_attr" [.self,.str "dimnames",.vec k' us a] (SG row k ah at' ep)=.ct "'dimnames' applied to non-array" (SG row k ah at' ep):=by
 have hd:=hO (d:=d+11) (row:=row) (ep:=ep) O;rw [h] at hd;exact gu (.t 0 (gz O) <| .t 1 (dF dh) <| .c 0 hd .nil) (by kernel_rfl)
section
variable {DS:List Int}(hd:ae (d+13) "dim_of" [.self] (SG row k ah at' ep)=.ok (.list (DS.map .int),.own) (SG row k ah at' ep))
include hd
theorem yX {k':Str}(dh:k'≠"NULL")(Lc:k'≠"list")(us:List T)(a:T):ae (d+15) "set_attr" [.self,.str "dimnames",.vec k' us a] (SG row k ah at' ep)=.ct "'dimnames' must be a list" (SG row k ah at' ep):=
 gu (.t 0 (gz O) <| .t 1 (dF dh) <| .c 0 hd <| .t 1 (nT Lc) .nil) (by kernel_rfl)
theorem yY (ps:List T)(a:T)(hl:(DS.map T.int).length < ps.length)(hb:ps.length < 900):ae (d+15) "set_attr" [.self,.str "dimnames",.vec "list" ps a] (SG row k ah at' ep)=.ct (v5 ps.length (DS.map T.int).length) (SG row k ah at' ep):=by
 have E7:=Nat.lt_trans hb (by decide:900 < 1000);have f1:=len_app L8 (cH (n:=ps.length) E7);have f2:=len_app f1 PO;have f3:=len_app f2 (cH (n:=(DS.map T.int).length) (Nat.lt_trans hl E7));have f4:=len_app f3 Ji;exact gu (.t 0 (gz O) <| .c 0 hd <| .t 2 (bN (b:=0) (Nat.ne_of_gt (Nat.lt_of_le_of_lt (Nat.zero_le _) hl))) <| .t 0 (iT hl) <| .p "str" 0 (gv (cf E7)) <| .t 0 (fits f1 rfl) <| .t 0 (fits f2 rfl) <| .p "str" 0 (gv (cf (Nat.lt_trans hl E7))) <| .t 0 (fits f3 rfl) <| .t 0 (fits f4 rfl) .nil) (by kernel_rfl)
theorem wh (a:T):∃dQ,ae (d+15) "set_attr" [.self,.str "dimnames",.vec "list" [] a] (SG row k ah at' ep)=.ok (.none,.val) (SG row k ah (c8 at' "dimnames") dQ):=by
 refine (eT (d+12) row ep O "dimnames").elim fun dQ e=>?_
 exact ⟨dQ,run (.t 0 (gz O) <| .c 0 hd <| .c 0 e .nil) (by kernel_rfl)⟩
section
variable {PS:List (Option (List T))}(h:Option (List T))(lU:∀us,some us∈PS→∀u∈us,fR u)(eZ:DS.length < 30)(hl:PS.length≤DS.length)(jf:PS.length≠0)
include lU eZ hl jf
theorem rK {m:Str}(he:rH PS DS 0 []=.inl m):ae (d+15) "set_attr" [.self,.str "dimnames",.vec "list" (PS.map bh) (bq h)] (SG row k ah at' ep)=.ct m (SG row k ah at' ep):=by
 obtain ⟨o,o2,q⟩:=m5 d (SG row k ah at' ep) (.vec "list" (PS.map bh) (bq h)) PS DS lU (Nat.lt_trans eZ (by decide)) DS PS 0 [] none none rfl rfl rfl;rw [he] at q;exact gu (.t 0 (gz O) <| .c 0 hd <| .t 2 (bN (b:=0) (List.length_map (as:=PS) bh▸jf)) <| .t 0 (fM (List.length_map (as:=PS) bh▸List.length_map (as:=DS) T.int▸hl)) <| .l 0 (aQ (List.length_map (as:=DS) T.int▸Nat.lt_trans eZ (by decide))) <| .x "for" 0 (List.length_map (as:=DS) T.int▸q) .nil) (by kernel_rfl)
theorem oP {acc:List T}(he:rH PS DS 0 []=.inr acc)(hh:∀hs,h=some hs→hs.length≤DS.length){at2:oH}{mY:Nat}
  (yZ:(if (h.isSome||acc.any lh)=true then ae (d+13) "put_attr" [.self,.str "dimnames",.vec "list" acc (bq (rI h DS.length))] else ae (d+13) "drop_attr" [.self,.str "dimnames"]) (SG row k ah at' ep)=.ok (.none,.val) (SG row k ah at2 mY)):
  ae (d+15) "set_attr" [.self,.str "dimnames",.vec "list" (PS.map bh) (bq h)] (SG row k ah at' ep)=.ok (.none,.val) (SG row k ah at2 mY):=by
 obtain ⟨o,o2,q⟩:=m5 d (SG row k ah at' ep) (.vec "list" (PS.map bh) (bq h)) PS DS lU (Nat.lt_trans eZ (by decide)) DS PS 0 [] none none rfl rfl rfl;rw [he] at q;rw [←List.length_map (as:=DS) T.int] at q hl eZ
 induction h with
 |none=>
  induction hv:acc.any lh with
  |true=>
   rw [hv] at yZ;exact run (.t 0 (gz O) <| .c 0 hd <| .t 2 (bN (b:=0) (List.length_map (as:=PS) bh▸jf)) <| .t 0 (fM (List.length_map (as:=PS) bh▸hl)) <| .l 0 (aQ (Nat.lt_trans eZ (by decide))) <| .o "for" 0 q <| .t 2 hv <| .c 0 (f:="put_attr") yZ .nil) (by kernel_rfl)
  |false=>
   rw [hv] at yZ;exact run (.t 0 (gz O) <| .c 0 hd <| .t 2 (bN (b:=0) (List.length_map (as:=PS) bh▸jf)) <| .t 0 (fM (List.length_map (as:=PS) bh▸hl)) <| .l 0 (aQ (Nat.lt_trans eZ (by decide))) <| .o "for" 0 q <| .t 2 hv <| .c 0 (f:="drop_attr") yZ .nil) (by kernel_rfl)
 |some hs=>
  have hh:=List.length_map (as:=DS) T.int▸hh hs rfl;have w:=qi (d+13) (SG row k ah at' ep) (.vec "list" (PS.map bh) (bq (some hs))) (.vec "list" acc .none) (.bool (acc.any lh)) (.list (DS.map .int)) (.list (PS.map bh)) (DS.map .int) rfl o o2 (some (.vec "character" hs .none)) (Nat.lt_trans eZ (by decide)) ((DS.map T.int).length - hs.length) 40 hs (Nat.add_sub_cancel' hh) (Nat.lt_of_le_of_lt (Nat.sub_le _ _) (Nat.lt_trans eZ (by decide)));rw [←List.length_map (as:=DS) T.int] at yZ;exact run (.t 0 (gz O) <| .c 0 hd <| .t 2 (bN (b:=0) (List.length_map (as:=PS) bh▸jf)) <| .t 0 (fM (List.length_map (as:=PS) bh▸hl)) <| .l 0 (aQ (Nat.lt_trans eZ (by decide))) <| .o "for" 0 q <| .o "while" 0 w <| .c 0 (f:="put_attr") yZ .nil) (by kernel_rfl)
end
end
end
section
variable (d:Nat)(row:Option (List Int)){k:Str}{n:Nat}{ah:List T}{at':oH}(ep:Nat)(O:Ok k n ah at')
include O
theorem Cd {ps:List (Option (List T))}{h:Option (List T)}(hv:(Vl.lst ps h).ok){DS:List Int}(b2:DS.length≤10)(hd:ae (d+13) "dim_of" [.self] (SG row k ah at' ep)=.ok (.list (DS.map .int),.own) (SG row k ah at' ep)):
  jw (ae (d+15) "set_attr" [.self,.str "dimnames",.vec "list" (ps.map bh) (bq h)] (SG row k ah at' ep)) row k ah at' ep (if ps.length=0 then .inr [("dimnames",none)] else if (DS.map T.int).length < ps.length then .inl (v5 ps.length (DS.map T.int).length) else
     (match rH ps (kM (DS.map .int)) 0 [] with
     |.inl m=>.inl m
     |.inr acc=>if (h.isSome||acc.any lh)=true then .inr [("dimnames",some (.vec "list" acc (bq (rI h (DS.map T.int).length))))] else .inr [("dimnames",none)])):=by
 have v1:=hv.1;have v2:=hv.2.1;have v3:=hv.2.2;have hm:=List.length_map (as:=ps) bh;by_cases h0:ps.length=0
 ·rw [if_pos h0,List.length_eq_zero_iff.mp h0];exact gK O.nd (wh d row ep O hd _)
 ·rw [if_neg h0];by_cases hl:(DS.map T.int).length < ps.length
  ·rw [if_pos hl,←hm];exact yY d row ep O hd (ps.map bh) (bq h) (hm.symm▸hl) (hm.symm▸Nat.lt_of_le_of_lt v1 (by decide))
  ·rw [if_neg hl,qg,List.length_map];have hl:=List.length_map (as:=DS) T.int▸Nat.le_of_not_lt hl;have eZ:DS.length < 30:=Nat.lt_of_le_of_lt b2 (by decide);have lU:∀us,some us∈ps→∀u∈us,fR u:=fun us hu=>(v2 us hu).2
   induction he:rH ps DS 0 [] with
   |inl m=>exact rK d row ep O hd h lU eZ hl h0 he
   |inr acc=>
    have hh:∀hs,h=some hs→hs.length≤DS.length:=fun hs e=>(v3 hs e).1▸hl
    show jw _ _ _ _ _ _ (if (h.isSome||acc.any lh)=true then _ else _);by_cases hs:(h.isSome||acc.any lh)=true
    ·rw [if_pos hs];refine (d7 (d+11) row ep O "dimnames" "list" acc (bq (rI h DS.length))).elim fun dQ e=>?_
     exact cN O.nd ⟨dQ,oP d row ep O hd h lU eZ hl h0 he hh (by rw [if_pos hs];exact e)⟩
    ·rw [if_neg hs];refine (eT (d+12) row ep O "dimnames").elim fun dQ e=>?_
     exact gK O.nd ⟨dQ,oP d row ep O hd h lU eZ hl h0 he hh (by rw [if_neg hs];exact e)⟩
theorem y7 (v:Vl)(hv:v.ok):jw (ae (d+15) "set_attr" [.self,.str "dimnames",v.t] (SG row k ah at' ep)) row k ah at' ep (jj (cw at') v):=by
 by_cases hn:v=.nul
 ·subst hn;exact gL (d+1) row ep O "dimnames" (.head _)
 ·rw [jV hn];rcases O.Jh with Ce|⟨DS,b1,b2,Ce⟩
  ·have C9:eS (cw at')=none:=by unfold eS;rw [Ce]
   rw [C9];obtain ⟨k',us,a,dh,e⟩:=hU hn;rw [e];exact E6 d row ep O dh us a C9
  ·have C9:eS (cw at')=some (DS.map .int):=by unfold eS;rw [Ce]
   have hd:=hO (d:=d+11) (row:=row) (ep:=ep) O;rw [C9] at hd ⊢
   induction v with
   |lst ps h=>exact Cd d row ep O hv b2 hd
   |nul=>exact absurd rfl hn
   |_=>exact yX d row ep O hd (by decide +kernel) (by decide +kernel) _ _
theorem Cf (name:Str)(kP:name∈(["names","dim","dimnames","class","levels","row.names","unit"]:List Str))(v:Vl)(hv:v.ok):jw (ae (d+15) "set_attr" [.self,.str name,v.t] (SG row k ah at' ep)) row k ah at' ep (La (cw at') k n name v):=by
 simp only [List.mem_cons,List.not_mem_nil,or_false] at kP;rcases kP with rfl|rfl|rfl|rfl|rfl|rfl|rfl
 ·exact wc (d+1) row ep O v hv
 ·exact B9 (d+1) row ep O v hv
 ·exact y7 d row ep O v hv
 ·exact wd (d+1) row ep O v hv
 ·exact t6 (d+1) row ep O v hv
 ·exact yW (d+1) row ep O v hv
 ·exact yV (d+1) row ep O v
end
noncomputable def j0:T→T
 |.null=>.str "NULL"
 |.vec k ah _=>.tup [.str k,.list ah,.dict []]
 |t=>t
noncomputable def L9:T→List (Str×T)
 |.dict es=>es.map fun p=>(p.1,j0 p.2)
 |_=>[]
noncomputable def vw:T→T
 |.null=>.str "NULL"
 |.vec k ah a=>.tup [.str k,.list (if k="list" then ah.map j0 else ah),.dict (L9 a)]
 |t=>t
theorem Cg {es:List (Str×T)}{k:Str}{t:T}(h:k∉es.map (·.1)):dput es k t=es++[(k,t)]:=by
 induction es with
 |nil=>rfl
 |cons p es ih=>
  have k':=p.1;have t':=p.2;simp only [List.map_cons,List.mem_cons,not_or] at h;show (if p.1=k then (p.1,t)::es else p::dput es k t)=_;rw [if_neg (fun e=>h.1 e.symm),ih h.2];rfl
theorem dc {es:List (Str×T)}(hn:(es.map (·.1)).Nodup){p:Str×T}(hp:p∈es):es.lookup p.1=some p.2:=by
 induction es with
 |nil=>exact absurd hp List.not_mem_nil
 |cons q es ih=>
  obtain ⟨k,t⟩:=q;rw [List.map_cons,List.nodup_cons] at hn;refine Eq.trans List.lookup_cons ?_;rcases List.mem_cons.mp hp with rfl|hm
  ·simp
  ·have:(p.1 == k)=false:=by
    rw [beq_eq_false_iff_ne];intro e;exact hn.1 (e▸List.mem_map_of_mem (f:=(·.1)) hm)
   rw [this];exact ih hn.2 hm
noncomputable def headOf:T→T
 |.vec _ (u::_) _=>u
 |_=>.none
noncomputable def xF:Option (List T)→Bool
 |some [_]=>true
 |_=>false
theorem lV:∀(ps:List (Option (List T))) (acc:List T),fN ps acc=if ps.all xF=true then some (acc++(ps.map bh).map headOf) else none
 |[],acc=>(congrArg some (List.append_nil acc).symm).trans (if_pos rfl).symm
 |none::_,_=>(if_neg Bool.false_ne_true).symm
 |some []::_,_=>(if_neg Bool.false_ne_true).symm
 |some [u]::r,acc=>by
  rw [show fN (some [u]::r) acc=fN r (acc++[u]) from rfl,lV r];rw [List.all_cons,show xF (some [u])=true from rfl,Bool.true_and];rw [List.append_assoc];rfl
 |some (_::_::_)::_,_=>(if_neg Bool.false_ne_true).symm
theorem wi (es:List (Str×T))(x:Str)(t u:T):dput (dput es x t) x u=dput es x u:=by
 induction es with
 |nil=>
  show dput [(x,t)] x u=[(x,u)];exact if_pos rfl
 |cons p es ih=>
  obtain ⟨y,w⟩:=p;show dput (if y=x then (y,t)::es else (y,w)::dput es x t) x u=if y=x then (y,u)::es else (y,w)::dput es x u
  by_cases h:y=x
  ·rw [if_pos h,if_pos h];show (if y=x then (y,u)::es else _)=_;rw [if_pos h]
  ·rw [if_neg h,if_neg h];show (if y=x then _ else (y,w)::dput (dput es x t) x u)=_;rw [if_neg h,ih]
noncomputable def fS (R:Res (T×Kd))(σ:Sg)(seen:List (Str×T))(lk:Lk)(e:yT):Prop:=match e with
 |.inl m=>R=.ok (.str m,.val) σ
 |.inr u=>∃fP,R=.ok (.dict fP,.own) σ∧(fP.map (·.1)).Nodup∧(∀y,fP.lookup y=(app u lk y).map vw)∧fP.length≤seen.length+1
structure Seen (seen:List (Str×T)) (lk:Lk):Prop where
 nd:(seen.map (·.1)).Nodup
 at':∀y,seen.lookup y=(lk y).map vw
 sz:seen.length < 100
 Jh:lk "dim"=none∨∃ds:List Int,ds≠[]∧ds.length≤10∧lk "dim"=some (.vec "integer" (ds.map .int) .none)
theorem t8 (es:List (Str×T))(k:Str):(cD es k).length≤es.length:=by
 obtain ⟨l,e,hs⟩:=lR es k;have:=hs.length_le;rw [←e,List.length_map,List.length_map] at this;exact this
theorem Ci {R:Res (T×Kd)}{σ:Sg}{seen:List (Str×T)}{lk:Lk}(S:Seen seen lk){x:Str}(h:R=.ok (.dict (cD seen x),.own) σ):fS R σ seen lk (.inr [(x,none)]):=
 ⟨_,h,hJ _ _ S.nd,fun y=>by rw [gc _ _ _ S.nd,dw,S.at'];split<;>rfl,Nat.le_succ_of_le (t8 _ _)⟩
theorem Cj {R:Res (T×Kd)}{σ:Sg}{seen:List (Str×T)}{lk:Lk}(S:Seen seen lk){x:Str}{t t':T}(ht:vw t=t')(h:R=.ok (.dict (dput seen x t'),.own) σ):fS R σ seen lk (.inr [(x,some t)]):=
 ⟨_,h,hH _ _ _ S.nd,fun y=>by rw [eQ,dw,S.at',←ht];split<;>rfl,fK _ _ _⟩
theorem du (es:List (Str×T))(q:Str→Bool)(y:Str):(es.filter fun p=>q p.1).lookup y=if q y=true then es.lookup y else none:=by
 induction es with
 |nil=>split<;>rfl
 |cons p es ih=>
  obtain ⟨k,t⟩:=p;rw [List.filter_cons];by_cases hk:q k=true
  ·rw [if_pos hk,List.lookup_cons,List.lookup_cons];by_cases h:y=k
   ·subst h;rw [if_pos hk];simp
   ·have:(y == k)=false:=by simpa using h
    rw [this];exact ih
  ·rw [if_neg hk,List.lookup_cons];by_cases h:y=k
   ·subst h;rw [if_neg hk,ih,if_neg hk]
   ·have:(y == k)=false:=by simpa using h
    rw [this];exact ih
theorem df {es:List (Str×T)}(q:Str×T→Bool)(h:(es.map (·.1)).Nodup):((es.filter q).map (·.1)).Nodup:=
 (List.filter_sublist.map (fun x:Str×T=>x.1)).nodup h
noncomputable def bH (x:Str)(p:Str×T):Bool:=!decide (p.1=x)
theorem dS {R:Res (T×Kd)}{σ:Sg}{seen:List (Str×T)}{lk:Lk}(S:Seen seen lk){x:Str}(h:R=.ok (.dict (seen.filter (bH x)),.own) σ):fS R σ seen lk (.inr [(x,none)]):=
 ⟨_,h,df _ S.nd,fun y=>by
  have:=du seen (fun y=>!decide (y=x)) y;rw [show seen.filter (bH x)=seen.filter (fun p=>!decide (p.1=x)) from rfl,this,dw,S.at'];by_cases hy:y=x<;>simp [hy],Nat.le_succ_of_le (List.length_filter_le _ _)⟩
theorem cB {R:Res (T×Kd)}{σ:Sg}{seen:List (Str×T)}{lk:Lk}(S:Seen seen lk){x:Str}{t t':T}(ht:vw t=t')(h:R=.ok (.dict (dput (seen.filter (bH x)) x t'),.own) σ):fS R σ seen lk (.inr [(x,some t)]):=
 ⟨_,h,hH _ _ _ (df _ S.nd),fun y=>by
  have:=du seen (fun y=>!decide (y=x)) y;rw [eQ,show seen.filter (bH x)=seen.filter (fun p=>!decide (p.1=x)) from rfl,this,dw,S.at',←ht];by_cases hy:y=x<;>simp [hy],Nat.le_trans (fK _ _ _) (by have:=List.length_filter_le (bH x) seen;lia)⟩
noncomputable def q2 (p:Str×T):Bool:=!(decide (("names":Str)=p.1)||decide (("dimnames":Str)=p.1))
theorem wj {R:Res (T×Kd)}{σ:Sg}{seen:List (Str×T)}{lk:Lk}{e:yT}(h:fS R σ seen lk e):∃r:T×Kd,(r.2=.val∨r.2=.own)∧R=.ok r σ:=by
 induction e with
 |inl m=>exact ⟨_,.inl rfl,h⟩
 |inr u=>
  obtain ⟨s2,e,_⟩:=h;exact ⟨_,.inr rfl,e⟩
theorem pv {R:Res (T×Kd)}{σ:Sg}{seen:List (Str×T)}{lk:Lk}(S:Seen seen lk)(h:R=.ok (.dict (cD (seen.filter (bH "dim")) "dimnames"),.own) σ):fS R σ seen lk (.inr [("dim",none),("dimnames",none)]):=by
 have nd:=df (bH "dim") S.nd;refine ⟨_,h,hJ _ _ nd,fun y=>?_,?_⟩
 ·rw [gc _ _ _ nd,fO,dw];have:=du seen (fun y:Str=>!decide (y=("dim":Str))) y;rw [show seen.filter (bH "dim")=seen.filter (fun p=>!decide (p.1=("dim":Str))) from rfl,this,S.at'];by_cases h1:y="dim"
  ·subst h1;simp
  ·by_cases h2:y="dimnames"<;>simp [h1,h2]
 ·have h1:=t8 (seen.filter (bH "dim")) "dimnames";have h2:=List.length_filter_le (bH "dim") seen;lia
theorem Ck {R:Res (T×Kd)}{σ:Sg}{seen:List (Str×T)}{lk:Lk}(S:Seen seen lk){t t':T}(ht:vw t=t')(h:R=.ok (.dict (dput ((seen.filter (bH "dim")).filter q2) "dim" t'),.own) σ):fS R σ seen lk (.inr [("dim",some t),("names",none),("dimnames",none)]):=by
 have nd:=df (bH "dim") S.nd;have EY:=df q2 nd;refine ⟨_,h,hH _ _ _ EY,fun y=>?_,?_⟩
 ·rw [eQ,fO,fO,dw,←ht];have h1:=du seen (fun y:Str=>!decide (y=("dim":Str))) y;have h2:=du (seen.filter (bH "dim")) (fun y:Str=>!(decide (("names":Str)=y)||decide (("dimnames":Str)=y))) y;rw [show (seen.filter (bH "dim")).filter q2=(seen.filter (bH "dim")).filter (fun p=>!(decide (("names":Str)=p.1)||decide (("dimnames":Str)=p.1))) from rfl,h2,show seen.filter (bH "dim")=seen.filter (fun p=>!decide (p.1=("dim":Str))) from rfl,h1,S.at'];by_cases e1:y="dim"
  ·subst e1;simp
  ·by_cases e2:y="names"
   ·subst e2;simp [e1]
   ·by_cases e3:y="dimnames"
    ·subst e3;simp [e1,e2]
    ·have Q2:¬("names":Str)=y:=fun q=>e2 q.symm
     have Q3:¬("dimnames":Str)=y:=fun q=>e3 q.symm
     simp [e1,e2,e3,Q2,Q3]
 ·have h1:=List.length_filter_le (bH "dim") seen;have h2:=List.length_filter_le q2 (seen.filter (bH "dim"));exact Nat.le_trans (fK _ _ _) (by lia)
theorem y8 {f:T→M Bool}{k g:T→M (T×Kd)}{x:Str}{t u:T}{r:List T}{es:List (Str×T)}{s:Sg}(h1:f t s=.ok true s)(h2:k t s=.ok (.str x,.val) s)(h3:yP (g t) s u s):bo f k g es (t::r) s=bo f k g (dput es x u) r s:=by
 obtain ⟨kd,e,hs⟩:=h3.kd;exact (bf h1).trans ((bf h2).trans ((bf e).trans (bf (hs s))))
theorem wk {f:T→M Bool}{k g:T→M (T×Kd)}{t:T}{r:List T}{es:List (Str×T)}{s:Sg}(h1:f t s=.ok false s):bo f k g es (t::r) s=bo f k g es r s:=bf h1
theorem kQ {f:T→M Bool}{k g:T→M (T×Kd)}{s:Sg}(q:Str×T→Bool)(h:Str×T→T):∀(es acc:List (Str×T)),((acc++es).map (·.1)).Nodup→(∀p∈es,f (.str p.1) s=.ok (q p) s)→(∀p∈es,k (.str p.1) s=.ok (.str p.1,.val) s)→(∀p∈es,q p=true→yP (g (.str p.1)) s (h p) s)→
  bo f k g acc (es.map fun p=>.str p.1) s=.ok (acc++(es.filter q).map fun p=>(p.1,h p)) s
 |[],acc,_,_,_,_=>by rw [List.filter_nil,List.map_nil,List.map_nil,List.append_nil];rfl
 |p::r,acc,hn,h1,h2,h3=>by
  have Ld:=hn;rw [List.map_append,List.map_cons,List.nodup_append,List.nodup_cons] at Ld;have e1:=h1 p (.head _)
  induction hq:q p with
  |true=>
   rw [hq] at e1;refine (y8 e1 (h2 p (.head _)) (h3 p (.head _) hq)).trans ?_;rw [Cg fun hm=>Ld.2.2 _ hm _ (.head _) rfl,kQ q h r _ (by rw [List.append_assoc,List.map_append];rw [List.map_append] at hn;exact hn) (fun t ht=>h1 t (.tail _ ht)) (fun t ht=>h2 t (.tail _ ht)) (fun t ht=>h3 t (.tail _ ht)),List.filter_cons_of_pos hq,List.append_assoc];rfl
  |false=>
   rw [hq] at e1;refine (wk e1).trans ?_;rw [kQ q h r acc (by rw [List.map_append,List.nodup_append];exact ⟨Ld.1,Ld.2.1.2,fun a ha b hb=>Ld.2.2 a ha b (.tail _ hb)⟩) (fun t ht=>h1 t (.tail _ ht)) (fun t ht=>h2 t (.tail _ ht)) (fun t ht=>h3 t (.tail _ ht)),List.filter_cons_of_neg (by rw [hq];exact nofun)]
theorem rL {α:Type}{f:T→M α}{t:T}{row:Option (List Int)}{v:aM}{r:α}(h:f t ⟨row,some {v with ep:=0}⟩=.ok r ⟨row,some {v with ep:=0}⟩):quiet .h f t ⟨row,some v⟩=.ok r ⟨row,some v⟩:=by
 unfold quiet j1 ba;rw [if_pos rfl];show (match (match f t ⟨row,some {v with ep:=0}⟩ with|.ok a s'=>_|_=>_:Res α) with|.ct _ _=>_|r=>r)=_;rw [h];rfl
section
variable {G:Calls}{L:Ev}{e:Expr}{l:List T}{k:Kd}{s:Sg}
theorem t9 {us:List (Str×T)}(h:cK G L l k e=l9 l k (oB G L e) (ET G L e) (lQ G L e))(h2:bo (quiet k (oB G L e)) (quiet k (ET G L e)) (quiet k (lQ G L e)) [] l s=.ok us s):cK G L l k e s=.ok (.dict us,.own) s:=by
 rw [h];exact bf h2
theorem qj {es:List (Str×T)}(h:cK G L (es.map fun p=>.str p.1) k e=l9 (es.map fun p=>.str p.1) k (oB G L e) (ET G L e) (lQ G L e))(hk:k≠.h)(hn:(es.map (·.1)).Nodup)(q:Str×T→Bool)(h1:∀p∈es,oB G L e (.str p.1) s=.ok (q p) s)(h2:∀p∈es,ET G L e (.str p.1) s=.ok (.str p.1,.val) s)(h3:∀p∈es,yP (lQ G L e (.str p.1)) s p.2 s):cK G L (es.map fun p=>.str p.1) k e s=.ok (.dict (es.filter q),.own) s:=by
 have q:=kQ q (·.2) es [] hn (fun p hp=>eP hk (h1 p hp)) (fun p hp=>eP hk (h2 p hp)) fun p hp _=>lO hk (h3 p hp)
 rw [List.nil_append,show (fun p:Str×T=>(p.1,p.2))=id from rfl,List.map_id] at q;exact t9 h q
end
section
variable (d:Nat)(s:Sg)
theorem gM {k':Str}(hk:k'∈(["character","integer","double","logical"]:List Str))(us:List T):ae (d+1) "_law_view" [.vec k' us .none] s=.ok (.tup [.str k',.list us,.dict []],.val) s:=by
 simp only [List.mem_cons,List.not_mem_nil,or_false] at hk;rcases hk with rfl|rfl|rfl|rfl<;>exact run .nil (by kernel_rfl)
theorem GP (ts:List T)(a:T)(L:Ev)(t:T)(ht:t=.null∨∃us,t=.vec "character" us .none):lQ (ae (d+1)) L (gI "_law_view" [4] 0 [1]) t s=.ok (j0 t,.val) s:=by
 rcases ht with rfl|⟨us,rfl⟩<;>exact eC .nil (by kernel_rfl)
theorem qk (ts:List T)(h:Option (List T))(hp:∀t∈ts,t=.null∨∃us,t=.vec "character" us .none):ae (d+2) "_law_view" [.vec "list" ts (bq h)] s=.ok (vw (.vec "list" ts (bq h)),.val) s:=by
 have q:=fun L (hc:cK (ae (d+1)) L ts .val (gI "_law_view" [4] 0 [1])=jy ts .val (oB (ae (d+1)) L (gI "_law_view" [4] 0 [1])) (lQ (ae (d+1)) L (gI "_law_view" [4] 0 [1]))) (h1:∀t∈ts,oB (ae (d+1)) L (gI "_law_view" [4] 0 [1]) t s=.ok true s)=>comp_map hc uy j0 h1 fun t ht=>.v (GP d s ts (bq h) L t (hp t ht))
 induction h with
 |none=>exact run (.v "[]" 0 (q (Lf "_law_view" [some (.vec "list" ts .none),some (.dict [])] []).ev (by kernel_rfl) fun _ _=>by kernel_rfl) .nil) (by kernel_rfl)
 |some hs=>exact run (.v "[]" 1 (q (Lf "_law_view" [some (.vec "list" ts (.dict [("names",.vec "character" hs .none)])),some (.dict [("names",.tup [.str "character",.list hs,.dict []])])] []).ev (by kernel_rfl) fun _ _=>by kernel_rfl) .nil) (by kernel_rfl)
end
theorem ua (d:Nat)(s:Sg)(v:Vl)(hn:v≠.nul):ae (d+2) "_law_view" [v.t] s=.ok (vw v.t,.val) s:=by
 induction v with
 |chr us=>exact gM (d+1) s (.head _) us
 |int l=>exact gM (d+1) s (.tail _ (.head _)) _
 |dbl l=>exact gM (d+1) s (.tail _ (.tail _ (.head _))) _
 |qe l=>exact gM (d+1) s (.tail _ (.tail _ (.tail _ (.head _)))) _
 |lst ps h=>
  refine qk d s _ h fun t ht=>?_
  obtain ⟨p,_,rfl⟩:=List.mem_map.mp ht
  induction p with
  |none=>exact .inl rfl
  |some us=>exact .inr ⟨us,rfl⟩
 |nul=>exact absurd rfl hn
theorem in_list {k:Str}(hk:k∈(["integer","double","character","logical","list"]:List Str))(hl:k≠"list")(s:Sg):(fi .In (.str k,.val) (.tup [.str "list",.str "expression",.str "pairlist"])>>=val) s=.ok (.bool false,.val) s:=by
 simp only [List.mem_cons,List.not_mem_nil,or_false] at hk;rcases hk with rfl|rfl|rfl|rfl|rfl<;>first|exact absurd rfl hl|kernel_rfl
noncomputable def lW (k:Str)(ah:List T):List T:=if k="list" then ah.map j0 else ah
section
variable (d:Nat)(row:Option (List Int)){k:Str}{ah:List T}{at':oH}(ep:Nat)(hk:k∈(["integer","double","character","logical","list"]:List Str))
theorem mB {es:List (Str×T)}(C8:(es.map (·.1)).Nodup)(hp:∀p∈es,ae (d+1) "_law_view" [p.2] (SG row k ah (some es) 0)=.ok (vw p.2,.val) (SG row k ah (some es) 0))(L:Ev)(hL:L=(Lf "_law_view" [some .self,some (.dict [])] []).ev):
  cK (ae (d+1)) L (es.map fun p=>.str p.1) .h (gI "_law_view" [3] 0 [0]) (SG row k ah (some es) ep)=.ok (.dict (es.map fun p=>(p.1,vw p.2)),.own) (SG row k ah (some es) ep):=by
 subst hL;have q:=kQ (f:=quiet .h (oB (ae (d+1)) (Lf "_law_view" [some .self,some (.dict [])] []).ev (gI "_law_view" [3] 0 [0]))) (k:=quiet .h (ET (ae (d+1)) (Lf "_law_view" [some .self,some (.dict [])] []).ev (gI "_law_view" [3] 0 [0]))) (g:=quiet .h (lQ (ae (d+1)) (Lf "_law_view" [some .self,some (.dict [])] []).ev (gI "_law_view" [3] 0 [0]))) (s:=SG row k ah (some es) ep) (fun _=>true) (fun p=>vw p.2) es [] C8 (fun p _=>rL (by kernel_rfl)) (fun p _=>rL (by kernel_rfl)) fun p hm _=>.v (rL (eC (.p "i" 0 (bY (dc C8 hm)) <| .c 0 (hp p hm) .nil) (by kernel_rfl)))
 rw [List.nil_append,List.filter_eq_self.mpr fun _ _=>rfl] at q;exact t9 (by kernel_rfl) q
include hk
theorem y9 (C8:((at'.getD []).map (·.1)).Nodup)(hi:k="list"→∀t∈ah,t=.null)(hp:∀p∈at'.getD [],ae (d+1) "_law_view" [p.2] (SG row k ah at' 0)=.ok (vw p.2,.val) (SG row k ah at' 0)):
  ae (d+2) "_law_view" [.self] (SG row k ah at' ep)=.ok (.tup [.str k,.list (lW k ah),.dict ((at'.getD []).map fun p=>(p.1,vw p.2))],.val) (SG row k ah at' ep):=by
 unfold lW
 have gz:decide (k="NULL")=false:=dF (by
  simp only [List.mem_cons,List.not_mem_nil,or_false] at hk;rcases hk with rfl|rfl|rfl|rfl|rfl<;>decide +kernel)
 by_cases hl:k="list"
 ·subst hl;have q:=fun (at':oH) L (hc:cK (ae (d+1)) L ah .val (gI "_law_view" [4] 0 [1])=jy ah .val (oB (ae (d+1)) L (gI "_law_view" [4] 0 [1])) (lQ (ae (d+1)) L (gI "_law_view" [4] 0 [1]))) (h1:∀t∈ah,oB (ae (d+1)) L (gI "_law_view" [4] 0 [1]) t (SG row "list" ah at' ep)=.ok true (SG row "list" ah at' ep))=>comp_map hc uy j0 h1 fun t ht=>.v (GP d (SG row "list" ah at' ep) ah .none L t (.inl (hi rfl t ht)))
  rw [if_pos rfl]
  induction at' with
  |none=>exact run (.v "[]" 0 (q none (Lf "_law_view" [some .self,some (.dict [])] []).ev (by kernel_rfl) fun _ _=>by kernel_rfl) .nil) (by kernel_rfl)
  |some es=>exact run (.v "[]" 0 (mB d row ep C8 hp _ rfl) <| .v "[]" 0 (q (some es) (Lf "_law_view" [some .self,some (.dict (es.map fun p=>(p.1,vw p.2)))] []).ev (by kernel_rfl) fun _ _=>by kernel_rfl) .nil) (by kernel_rfl)
 ·rw [if_neg hl]
  induction at' with
  |none=>exact run (.t 1 gz <| .p "c" 1 (in_list hk hl) .nil) (by kernel_rfl)
  |some es=>exact run (.t 1 gz <| .v "[]" 0 (mB d row ep C8 hp _ rfl) <| .p "c" 0 (in_list hk hl) .nil) (by kernel_rfl)
end
theorem Cm (n:Nat)(h:n≤8):(bc (n:Int)++(".5":Str)).length≤18+2:=len_app (cH (Nat.lt_of_le_of_lt h (by decide))) (by decide +kernel)
section
variable (d:Nat)(s:Sg)
noncomputable abbrev Ma (k':Str)(ah:List T)(a:T)(o:Option T)(acc:List T):Lv:=Lf "_law_words" [some (.vec k' ah a),some (.str "names"),o] [("found",.list acc,.own)]
theorem kR (k':Str)(ah:List T)(a:T)(h:T→T):∀(l acc:List T) (o:Option T),(∀t∈l,∀(acc:List T) (o:Option T),acc.length < 1000→ak (ae d) (jD "_law_words" [2]) ((Ma k' ah a o acc).ax "item" t).ev s=.ok (.next,(Ma k' ah a (some t) (acc++[h t])).ev) s)→acc.length+l.length < 1000→
  ∃o',eh (ae d) "item" (jD "_law_words" [2]) l (Ma k' ah a o acc) s=.ok (.next,(Ma k' ah a o' (acc++l.map h)).ev) s
 |[],acc,o,_,_=>⟨o,by rw [List.map_nil,List.append_nil];rfl⟩
 |t::r,acc,o,ht,hl=>by
  have hl:acc.length+(r.length+1) < 1000:=hl;obtain ⟨o',e⟩:=kR k' ah a h r (acc++[h t]) (some t) (fun t h=>ht t (.tail _ h)) (fJ hl);rw [List.append_assoc] at e;exact ⟨o',aN (ht t (.head _) acc o (Nat.lt_of_le_of_lt (Nat.le_add_right _ _) hl)) e⟩
theorem xG (ah:List T)(a:T):∀(ps:List (Option (List T))) (o:Option T),∃o',eh (ae d) "item" (jD "_law_words" [0,1]) (ps.map bh) (Lf "_law_words" [some (.vec "list" ah a),some (.str "names"),o] []) s=.ok (if ps.all xF=true then .next else .ret (.str "invalid type (list) to set 'names' attribute") .val,(Lf "_law_words" [some (.vec "list" ah a),some (.str "names"),o'] []).ev) s
 |[],o=>⟨o,rfl⟩
 |none::r,o=>⟨some .null,fZ (aV .nil (by kernel_rfl))⟩
 |some []::r,o=>⟨some (.vec "character" [] .none),fZ (aV .nil (by kernel_rfl))⟩
 |some [u]::r,o=>by
  obtain ⟨o',e⟩:=xG ah a r (some (.vec "character" [u] .none));exact ⟨o',aN (aV .nil (by kernel_rfl)) e⟩
 |some (u::u2::us)::r,o=>⟨some (.vec "character" (u::u2::us) .none),fZ (aV .nil (by kernel_rfl))⟩
theorem za (v:Vl)(hv:v.ok)(hn:v≠.nul):ae (d+1) "_law_words" [v.t,.str "names"] s=match words v with
   |some ws=>.ok (.list ws,.own) s
   |none=>.ok (.str "invalid type (list) to set 'names' attribute",.val) s:=by
 induction v with
 |chr us=>
  obtain ⟨o,e⟩:=kR d s "character" us .none id us [] none (fun t ht acc o ha=>by
   rcases hv.2 t ht with rfl|⟨x,rfl,_⟩
   ·exact aV (.p "m" 0 (bU acc .none ha) .nil) (by kernel_rfl)
   ·exact aV (.p "m" 0 (bU acc (.str x) ha) .nil) (by kernel_rfl)) (by rw [List.length_nil,Nat.zero_add];exact Nat.lt_of_le_of_lt hv.1 (by decide))
  rw [List.nil_append,List.map_id] at e;exact run (.o "for" 0 e .nil) (by kernel_rfl)
 |int l=>
  obtain ⟨o,e⟩:=kR d s "integer" (l.map cL) .none hI (l.map cL) [] none (fun t ht acc o ha=>by
   obtain ⟨p,hp,rfl⟩:=List.mem_map.mp ht
   induction p with
   |none=>exact aV (.p "m" 0 (bU acc .none ha) .nil) (by kernel_rfl)
   |some i=>exact aV (.p "str" 0 (fL (i:=i) (dT (Nat.lt_of_le_of_lt (hv.2 i hp) (by decide)))) <| .p "m" 0 (bU acc (.str (bc i)) ha) .nil) (by kernel_rfl)) (by rw [List.length_nil,Nat.zero_add,List.length_map];exact Nat.lt_of_le_of_lt hv.1 (by decide))
  exact run (.o "for" 0 e .nil) (by kernel_rfl)
 |qe l=>
  obtain ⟨o,e⟩:=kR d s "logical" (l.map cL) .none hL (l.map cL) [] none (fun t ht acc o ha=>by
   obtain ⟨p,hp,rfl⟩:=List.mem_map.mp ht
   induction p with
   |none=>exact aV (.p "m" 0 (bU acc .none ha) .nil) (by kernel_rfl)
   |some i=>
    rcases hv.2 i hp with rfl|rfl
    ·exact aV (.p "m" 0 (bU acc (.str "FALSE") ha) .nil) (by kernel_rfl)
    ·exact aV (.p "m" 0 (bU acc (.str "TRUE") ha) .nil) (by kernel_rfl)) (by rw [List.length_nil,Nat.zero_add,List.length_map];exact Nat.lt_of_le_of_lt hv.1 (by decide))
  exact run (.o "for" 0 e .nil) (by kernel_rfl)
 |dbl l=>
  obtain ⟨o,e⟩:=kR d s "double" (l.map cz) .none hD (l.map cz) [] none (fun t ht acc o ha=>by
   obtain ⟨n,hn,rfl⟩:=List.mem_map.mp ht;have hn:=hv.2.2 n hn;have q:ay (dy .FloorDiv (.int (2 * (n:Int)+1)) (.int 2)) s=.ok (.int n,.val) s:=congrArg (fun i=>Res.ok (T.int i,Kd.val) s) (jl n);have e:hD (cz n)=.str (bc (n:Int)++".5"):=congrArg (fun i=>T.str (bc i++".5")) (jl n);rw [e];exact aV (.v "+" 0 q <| .p "str" 0 (fL (cf (Nat.lt_of_le_of_lt hn (by decide)))) <| .p "+" 0 (cG (Cm n hn) rfl) <| .p "m" 0 (bU acc (.str (bc (n:Int)++".5")) ha) .nil) (by kernel_rfl)) (by rw [List.length_nil,Nat.zero_add,List.length_map];exact Nat.lt_of_le_of_lt hv.2.1 (by decide))
  exact run (.o "for" 0 e .nil) (by kernel_rfl)
 |lst ps h=>
  refine (xG d s (ps.map bh) (bq h) ps none).elim fun o e=>?_
  show _=match fN ps [] with|some ws=>_|none=>_
  rw [lV];by_cases Cn:ps.all xF=true
  ·rw [if_pos Cn] at e ⊢
   have q:=comp_map (G:=ae d) (L:=(Lf "_law_words" [some (.vec "list" (ps.map bh) (bq h)),some (.str "names"),o] []).ev) (e:=gI "_law_words" [0] 2 []) (l:=ps.map bh) (k:=.val) (s:=s) (by kernel_rfl) uy headOf (fun _ _=>by kernel_rfl) fun t ht=>.v (by
    obtain ⟨p,hp,rfl⟩:=List.mem_map.mp ht;have hq:=List.all_eq_true.mp Cn p hp;rcases p with _|_|⟨u,r⟩
    ·exact d9 hq
    ·exact d9 hq
    ·exact eC .nil (by kernel_rfl))
   exact run (.o "for" 0 e <| .v "[]" 0 q .nil) (by kernel_rfl)
  ·rw [if_neg Cn] at e ⊢;exact run (.o "for" 0 e .nil) (by kernel_rfl)
 |nul=>exact absurd rfl hn
theorem xH {k':Str}(hk:k'≠"double")(ah:List T)(a:T):∀(l:List (Option Int)) (acc:List Int) (o:Option T),acc.length+l.length < 1000→
  ∃(o':Option T) (cO:List Int),eh (ae d) "item" (jD "_law_dims" [3]) (l.map cL) (Lf "_law_dims" [some (.vec k' ah a),none,o] [("sides",.list (acc.map .int),.own)]) s=.ok (match ip l acc with
  |.inl m=>(.ret (.str m) .val,(Lf "_law_dims" [some (.vec k' ah a),none,o'] [("sides",.list (cO.map .int),.own)]).ev)
  |.inr ds=>(.next,(Lf "_law_dims" [some (.vec k' ah a),none,o'] [("sides",.list (ds.map .int),.own)]).ev)) s
 |[],acc,o,_=>⟨o,[],rfl⟩
 |none::r,acc,o,_=>⟨some .none,acc,fZ (aV (.t 0 (dF hk) .nil) (by kernel_rfl))⟩
 |some i::r,acc,o,hl=>by
  have hl:acc.length+(r.length+1) < 1000:=hl;rw [oG];by_cases hi:i < 0
  ·rw [if_pos hi];exact ⟨some (.int i),acc,fZ (aV (.t 0 (dF hk) <| .t 1 (dT hi) .nil) (by kernel_rfl))⟩
  ·rw [if_neg hi];obtain ⟨o',cO,h⟩:=xH hk ah a r (acc++[i]) (some (.int i)) (fJ hl);rw [List.map_append] at h;exact ⟨o',cO,aN (aV (.t 0 (dF hk) <| .t 1 (dF hi) <| .p "m" 0 (bU (acc.map .int) (.int i) (map_lt hl)) .nil) (by kernel_rfl)) h⟩
theorem ql (ah:List T)(a:T):∀(l:List Nat) (acc:List Int) (o:Option T),acc.length+l.length < 1000→
  ∃o',eh (ae d) "item" (jD "_law_dims" [3]) (l.map cz) (Lf "_law_dims" [some (.vec "double" ah a),none,o] [("sides",.list (acc.map .int),.own)]) s=.ok (.next,(Lf "_law_dims" [some (.vec "double" ah a),none,o'] [("sides",.list ((acc++l.map fun (n:Nat)=>(n:Int)).map .int),.own)]).ev) s
 |[],acc,o,_=>⟨o,by rw [List.map_nil,List.map_nil,List.append_nil];rfl⟩
 |n::r,acc,o,hl=>by
  have hl:acc.length+(r.length+1) < 1000:=hl;refine (ql ah a r (acc++[(n:Int)]) (some (.int n)) (fJ hl)).elim fun o' h=>?_
  rw [List.append_assoc,List.map_append] at h;have q:ay (dy .FloorDiv (.int (2 * (n:Int)+1)) (.int 2)) s=.ok (.int n,.val) s:=congrArg (fun i=>Res.ok (T.int i,Kd.val) s) (jl n);exact ⟨o',aN (aV (.v "+" 0 q <| .p "m" 0 (bU (acc.map .int) (.int n) (map_lt hl)) .nil) (by kernel_rfl)) h⟩
theorem Co {k':Str}(hk:k'="integer"∨k'="logical")(l:List (Option Int))(a:T)(hl:l.length < 1000)(jf:l≠[]):ae (d+1) "_law_dims" [.vec k' (l.map cL) a] s=match ip l [] with
   |.inl m=>.ok (.str m,.val) s
   |.inr ds=>.ok (.list (ds.map .int),.own) s:=by
 obtain ⟨o,acc,q⟩:=xH d s (k':=k') (by rcases hk with rfl|rfl<;>decide +kernel) (l.map cL) a l [] none (by rw [List.length_nil,Nat.zero_add];exact hl)
 cases l with
 |nil=>exact absurd rfl jf
 |cons p l=>
  induction hd:ip (p::l) [] with
  |inl m=>
   rw [hd] at q;rcases hk with rfl|rfl<;>exact run (.o "for" 0 q .nil) (by kernel_rfl)
  |inr ds=>
   rw [hd] at q;rcases hk with rfl|rfl<;>exact run (.o "for" 0 q .nil) (by kernel_rfl)
theorem Cp (v:Vl)(hv:v.ok)(hn:v≠.nul):ae (d+1) "_law_dims" [v.t] s=match iq v with
  |.inl m=>.ok (.str m,.val) s
  |.inr ds=>.ok (.list (ds.map .int),.own) s:=by
 induction v with
 |int l=>
  show _=match (if l.length=0 then _ else _:Str ⊕ List Int) with|.inl m=>_|.inr ds=>_
  by_cases hl:l.length=0
  ·rw [if_pos hl,List.length_eq_zero_iff.mp hl];exact run .nil (by kernel_rfl)
  ·rw [if_neg hl];exact Co d s (.inl rfl) l _ (Nat.lt_of_le_of_lt hv.1 (by decide)) fun q=>hl (q▸rfl)
 |qe l=>
  show _=match (if l.length=0 then _ else _:Str ⊕ List Int) with|.inl m=>_|.inr ds=>_
  by_cases hl:l.length=0
  ·rw [if_pos hl,List.length_eq_zero_iff.mp hl];exact run .nil (by kernel_rfl)
  ·rw [if_neg hl];exact Co d s (.inr rfl) l _ (Nat.lt_of_le_of_lt hv.1 (by decide)) fun q=>hl (q▸rfl)
 |dbl l=>
  obtain ⟨o,h⟩:=ql d s (l.map cz) .none l [] none (by rw [List.length_nil,Nat.zero_add];exact Nat.lt_of_le_of_lt hv.2.1 (by decide))
  induction l with
  |nil=>exact absurd rfl hv.1
  |cons n l=>exact run (.o "for" 0 h .nil) (by kernel_rfl)
 |chr us=>exact run .nil (by kernel_rfl)
 |lst ps h=>exact run .nil (by kernel_rfl)
 |nul=>exact absurd rfl hn
end
theorem E8 {n:Int}{u:T}(h0:0≤n)(h1:n≤1000)(s:Sg):ay (dy .Mult (.list [u]) (.int n)) s=.ok (.list (List.replicate n.toNat u),.own) s:=by
 show ay (if n≤(aq:Int)∧-9223372036854775808≤n then some (T.list (List.replicate n.toNat u),Kd.own) else none) s=_;rw [if_pos ⟨h1,Int.le_trans (by decide) h0⟩];rfl
theorem kS {n m:Nat}{u:T}(h:m≤n)(hn:n≤1000)(s:Sg):ay (dy .Mult (.list [u]) (.int ((n:Int) - (m:Int)))) s=.ok (.list (List.replicate (n - m) u),.own) s:=by
 rw [←Int.ofNat_sub h];exact E8 (Int.natCast_nonneg _) (Int.ofNat_le.mpr (Nat.le_trans (Nat.sub_le _ _) hn)) s
theorem i0 {x y:List T}(h:x.length+y.length≤1000)(s:Sg):ay (dy .Add (.list x) (.list y)) s=.ok (.list (x++y),.own) s:=by
 show ay (if x.length+y.length≤aq then some (T.list (x++y),Kd.own) else none) s=_;rw [if_pos (show x.length+y.length≤aq from h)];rfl
theorem m6 {ws:List T}{n:Nat}{u:T}(h:ws.length≤n)(hn:n≤1000)(s:Sg):ay (dy .Add (.list ws) (.list (List.replicate (n - ws.length) u))) s=.ok (.list (ws++List.replicate (n - ws.length) u),.own) s:=
 i0 (by rw [List.length_replicate,Nat.add_sub_cancel' h];exact hn) s
theorem Seen.IM {seen:List (Str×T)}{lk:Lk}(S:Seen seen lk):(seen.lookup ("dim":Str)=none∧eS lk=none)∨∃ds:List Int,ds≠[]∧ds.length≤10∧seen.lookup ("dim":Str)=some (.tup [.str "integer",.list (ds.map .int),.dict []])∧eS lk=some (ds.map .int):=by
 rcases S.Jh with h|⟨ds,h1,h2,h⟩
 ·exact .inl ⟨by rw [S.at',h];rfl,by unfold eS;rw [h]⟩
 ·exact .inr ⟨ds,h1,h2,by rw [S.at',h];rfl,by unfold eS;rw [h]⟩
theorem i6 {α:Type}{o:Option α}{x:α}(h:o=some x):o.isSome=true:=by subst h;rfl
theorem lX {α:Type}{o:Option α}(h:o=none):o.isSome=false:=by subst h;rfl
theorem hW {α:Type}{o:Option α}{x:α}(h:o=some x):(!o.isSome)=false:=by subst h;rfl
theorem E9 {α:Type}{o:Option α}(h:o=none):(!o.isSome)=true:=by subst h;rfl
section
variable (d:Nat)(s:Sg){seen:List (Str×T)}{lk:Lk}(S:Seen seen lk){k:Str}(hk:k≠"NULL")(n:Nat)
include S hk
theorem wm:ae (d+3) "_law_set" [.dict seen,.str k,.int n,.str "names",.null] s=.ok (.dict (cD seen (nameKey lk)),.own) s:=by
 unfold nameKey iU;rcases S.IM with ⟨h,hd⟩|⟨ds,_,_,h,hd⟩
 ·rw [hd];exact run (.t 0 (dF hk) <| .t 2 (lX h) .nil) (by kernel_rfl)
 ·rw [hd]
  skip
  by_cases h1:(ds.map T.int).length=1
  ·rw [if_pos (dT h1)];exact run (.t 0 (dF hk) <| .t 2 (i6 h) <| .p "i" 0 (bY h) <| .t 0 (ff (b:=1) h1) .nil) (by kernel_rfl)
  ·rw [if_neg (dN h1)];exact run (.t 0 (dF hk) <| .t 2 (i6 h) <| .p "i" 0 (bY h) <| .t 0 (bN (b:=1) h1) .nil) (by kernel_rfl)
section
variable {k':Str}{us:List T}{a:T}(dh:k'≠"NULL")
include dh
theorem wo {m:Str}(h:ae (d+1) "_law_words" [.vec k' us a,.str "names"] s=.ok (.str m,.val) s):ae (d+3) "_law_set" [.dict seen,.str k,.int n,.str "names",.vec k' us a] s=.ok (.str m,.val) s:=
 run (.t 0 (dF hk) <| .t 1 (dF dh) <| .c 0 h .nil) (by kernel_rfl)
variable {ws:List T}(h:ae (d+1) "_law_words" [.vec k' us a,.str "names"] s=.ok (.list ws,.own) s)
include h
theorem ub (hl:n < ws.length)(hw:ws.length < 20):ae (d+3) "_law_set" [.dict seen,.str k,.int n,.str "names",.vec k' us a] s=.ok (.str (B5 ws.length n),.val) s:=by
 have f1:=len_app PJ (cH (n:=ws.length) (Nat.lt_trans hw (by decide)));have f2:=len_app f1 PK;have f3:=len_app f2 (cH (n:=n) (Nat.lt_trans (Nat.lt_trans hl hw) (by decide)));have f4:=len_app f3 Ji;exact run (.t 0 (dF hk) <| .t 1 (dF dh) <| .c 0 h <| .t 1 (iT hl) <| .p "str" 0 (fL (cf (Nat.lt_trans hw (by decide)))) <| .p "+" 0 (cG f1 rfl) <| .p "+" 0 (cG f2 rfl) <| .p "str" 0 (fL (cf (Nat.lt_trans (Nat.lt_trans hl hw) (by decide)))) <| .p "+" 0 (cG f3 rfl) <| .p "+" 0 (cG f4 rfl) .nil) (by kernel_rfl)
theorem uc (hl:ws.length≤n)(hn:n≤8):∃t,vw (fw lk (ws++List.replicate (n - ws.length) .none))=t∧ae (d+3) "_law_set" [.dict seen,.str k,.int n,.str "names",.vec k' us a] s=.ok (.dict (dput seen (nameKey lk) t),.own) s:=by
 have uz:=Nat.le_trans hn (by decide:8≤1000);have hz:decide (seen.length < aq)=true:=dT (Nat.lt_trans S.sz (by decide));unfold nameKey fw iU;rcases S.IM with ⟨hs,hd⟩|⟨ds,_,_,hs,hd⟩
 ·rw [hd];exact ⟨_,rfl,run (.t 0 (dF hk) <| .t 1 (dF dh) <| .c 0 h <| .t 1 (fM hl) <| .p "+" 1 (kS (u:=.none) hl uz) <| .p "+" 0 (m6 (u:=.none) hl uz) <| .t 0 (lX hs) <| .t 1 hz .nil) (by kernel_rfl)⟩
 ·rw [hd]
  skip
  by_cases h1:(ds.map T.int).length=1
  ·rw [if_pos (dT h1),if_pos (dT h1)];refine ⟨_,rfl,?_⟩;have Q4:∀t,decide ((dput seen "dimnames" t).length < aq)=true:=fun t=>dT (Nat.lt_of_le_of_lt (fK _ _ _) (Nat.lt_trans (Nat.succ_lt_succ S.sz) (by decide)))
   refine (run (.t 0 (dF hk) <| .t 1 (dF dh) <| .c 0 h <| .t 1 (fM hl) <| .p "+" 1 (kS (u:=.none) hl uz) <| .p "+" 0 (m6 (u:=.none) hl uz) <| .t 0 (i6 hs) <| .p "i" 0 (bY hs) <| .t 0 (ff (b:=1) h1) <| .t 1 hz <| .t 1 (Q4 (.tup [.str "character",.list (ws++List.replicate (n - ws.length) .none),.dict []])) .nil) (a:=(.dict (dput (dput seen "dimnames" (.tup [.str "character",.list (ws++List.replicate (n - ws.length) .none),.dict []])) "dimnames" (vw (.vec "list" [.vec "character" (ws++List.replicate (n - ws.length) .none) .none] .none))),.own)) (s':=s) (by kernel_rfl)).trans ?_;rw [wi]
  ·rw [if_neg (dN h1),if_neg (dN h1)];exact ⟨_,rfl,run (.t 0 (dF hk) <| .t 1 (dF dh) <| .c 0 h <| .t 1 (fM hl) <| .p "+" 1 (kS (u:=.none) hl uz) <| .p "+" 0 (m6 (u:=.none) hl uz) <| .t 0 (i6 hs) <| .p "i" 0 (bY hs) <| .t 0 (bN (b:=1) h1) <| .t 1 hz .nil) (by kernel_rfl)⟩
end
end
theorem kT (acc:List T)(t:T):(acc++[t]).map j0=acc.map j0++[j0 t]:=List.map_append
section
variable (d:Nat)(s:Sg)
noncomputable abbrev IP (seen value Lg F:T)(acc:List T)(o o2:Option T):Lv:=Lf "_law_dimnames_set" [some seen,some value,some Lg,none,none,o,o2] [("parts",.list (acc.map j0),.own),("found",F,.own)]
theorem kU (seen F:T)(a:T)(PS:List (Option (List T)))(DS:List Int)(eZ:DS.length < 900):∀(ds:List Int) (ps:List (Option (List T))) (i:Nat) (acc:List T) (o o2:Option T),acc.length=i→DS.drop i=ds→PS.drop i=ps→
  ∃o' jZ oQ,eh (ae d) "spot" (jD "_law_dimnames_set" [7]) ((List.range' i ds.length).map fun i:Nat=>T.int (i:Int)) (IP seen (.vec "list" (PS.map bh) a) (.list (DS.map .int)) F acc o o2) s=.ok (match rH ps ds i acc with
   |.inl m=>(.ret (.str m) .val,(IP seen (.vec "list" (PS.map bh) a) (.list (DS.map .int)) F oQ o' jZ).ev)
   |.inr cO=>(.next,(IP seen (.vec "list" (PS.map bh) a) (.list (DS.map .int)) F cO o' jZ).ev)) s
 |[],ps,i,acc,o,o2,_,_,_=>⟨o,o2,acc,by induction ps<;>rfl⟩
 |e::r,[],i,acc,o,o2,ha,hd,hp=>by
  have he:=(bZ hd).1;have hr:=(bZ hd).2.1;have hi:=(bZ hd).2.2;obtain ⟨o',jZ,oQ,h⟩:=kU seen F a PS DS eZ r [] (i+1) (acc++[.null]) (some (.int i)) (some (.list [])) (by rw [List.length_append,ha];rfl) hr (List.drop_eq_nil_of_le (Nat.le_succ_of_le (List.drop_eq_nil_iff.mp hp)));unfold IP at h;rw [kT] at h;exact ⟨o',jZ,oQ,aN (aV (.t 0 (fM (List.length_map (as:=PS) bh▸List.drop_eq_nil_iff.mp hp)) <| .p "m" 0 (bU (acc.map j0) (.str "NULL") (by rw [List.length_map,ha];exact Nat.lt_trans hi (Nat.lt_trans eZ (by decide)))) .nil) (by kernel_rfl)) h⟩
 |e::r,p::ps,i,acc,o,o2,ha,hd,hp=>by
  have he:=(bZ hd).1;have hr:=(bZ hd).2.1;have hi:=(bZ hd).2.2;have hq:=(bZ hp).1;have jU:=(bZ hp).2.1;have L7:=(bZ hp).2.2;have ih:=fun t o=>kU seen F a PS DS eZ r ps (i+1) (acc++[t]) (some (.int i)) o (by rw [List.length_append,ha];rfl) hr jU
  have hle:decide ((i:Int) < ((PS.map bh).length:Int))=true:=iT (List.length_map (as:=PS) bh▸L7);have Cc:(acc.map j0).length < 1000:=by rw [List.length_map,ha];exact Nat.lt_trans hi (Nat.lt_trans eZ (by decide))
  have Lb:i < 900:=Nat.lt_trans hi eZ
  induction p with
  |none=>
   obtain ⟨o',jZ,oQ,h⟩:=ih .null (some (.list []));unfold IP at h;rw [kT] at h;exact ⟨o',jZ,oQ,aN (aV (.t 0 hle <| .p "i" 0 (bl (cA (f:=bh) hq)) <| .p "m" 0 (bU (acc.map j0) (.str "NULL") Cc) .nil) (by kernel_rfl)) h⟩
  |some us=>
   induction us with
   |nil=>
    obtain ⟨o',jZ,oQ,h⟩:=ih .null (some (.list []));unfold IP at h;rw [kT] at h;have e1:kL (some []) e i=.inr (.vec "character" [] .none):=if_neg fun q=>absurd q.2 (by decide)
    rw [iZ,e1];exact ⟨o',jZ,oQ,aN (aV (.t 0 hle <| .p "i" 0 (bl (cA (f:=bh) hq)) <| .p "i" 0 (bl (cA (f:=bh) hq)) <| .p "m" 0 (bU (acc.map j0) (.str "NULL") Cc) .nil) (by kernel_rfl)) h⟩
   |cons u us=>
    rw [iZ];by_cases hz:((u::us).length:Int)=e
    ·obtain ⟨o',jZ,oQ,h⟩:=ih (.vec "character" (u::us) .none) (some (.list (u::us)));unfold IP at h;rw [kT] at h;have e1:kL (some (u::us)) e i=.inr (.vec "character" (u::us) .none):=if_neg fun q=>q.1 hz
     rw [e1];exact ⟨o',jZ,oQ,aN (aV (.t 0 hle <| .p "i" 0 (bl (cA (f:=bh) hq)) <| .p "i" 0 (bl (cA (f:=bh) hq)) <| .p "i" 0 (bl (cA (f:=T.int) he)) <| .t 0 (nF hz) <| .p "m" 0 (bU (acc.map j0) (.tup [.str "character",.list (u::us),.dict []]) Cc) .nil) (by kernel_rfl)) h⟩
    ·have e1:kL (some (u::us)) e i=.inl (EU i):=if_pos ⟨hz,Nat.succ_pos _⟩;rw [e1];have f1:=len_app L8 (cH (n:=i+1) (Nat.lt_trans (Nat.succ_lt_succ Lb) (by decide)));have f2:=len_app f1 PN;exact ⟨some (.int i),some (.list (u::us)),acc,fZ (aV (.t 0 hle <| .p "i" 0 (bl (cA (f:=bh) hq)) <| .p "i" 0 (bl (cA (f:=bh) hq)) <| .p "i" 0 (bl (cA (f:=T.int) he)) <| .t 0 (nT hz) <| .p "str" 0 (fL (eD (Nat.lt_trans Lb (by decide)))) <| .p "+" 0 (cG f1 rfl) <| .p "+" 0 (cG f2 rfl) .nil) (by kernel_rfl))⟩
end
theorem kW {f:T→M Bool}{g:T→M (T×Kd)}{s:Sg}(q:T→Bool):∀{l:List T},(∀t∈l,f t s=.ok (q t) s)→(∀t∈l,yP (g t) s t s)→tests f g l s=.ok (l.filter q) s
 |[],_,_=>rfl
 |t::r,h1,h2=>by
  have e:=h1 t (.head _);have ih:=kW q (l:=r) (fun t ht=>h1 t (.tail _ ht)) fun t ht=>h2 t (.tail _ ht)
  rw [List.filter_cons]
  induction hq:q t with
  |true=>rw [hq] at e;rw [if_pos rfl];exact lP e (h2 t (.head _)) ih
  |false=>rw [hq] at e;rw [if_neg nofun];exact vZ e ih
theorem mC {G:Calls}{L:Ev}{e:Expr}{l:List T}{k:Kd}{s:Sg}(h:cK G L l k e=jy l k (oB G L e) (lQ G L e))(hk:k≠.h)(q:T→Bool)(h1:∀t∈l,oB G L e t s=.ok (q t) s)(h2:∀t∈l,yP (lQ G L e t) s t s):cK G L l k e s=.ok (.list (l.filter q),.own) s:=
 oC h (kW q (fun t ht=>eP hk (h1 t ht)) fun t ht=>lO hk (h2 t ht))
noncomputable def isTup:T→Bool
 |.tup _=>true
 |_=>false
noncomputable def GQ (t:T):Prop:=t=.null∨∃us,t=.vec "character" us .none
theorem xI:∀(acc:List T),(∀t∈acc,GQ t)→(acc.map j0).filter isTup=[]∧acc.any lh=false∨(∃t r,(acc.map j0).filter isTup=t::r)∧acc.any lh=true
 |[],_=>.inl ⟨rfl,rfl⟩
 |t::r,h=>by
  rcases h t (.head _) with rfl|⟨us,rfl⟩
  ·exact xI r fun t ht=>h t (.tail _ ht)
  ·exact .inr ⟨⟨_,_,rfl⟩,rfl⟩
theorem m7 (P:T→Prop)(h0:P .null):∀(ps:List (Option (List T))) (ds:List Int) (i:Nat) (acc cO:List T),rH ps ds i acc=.inr cO→(∀us,some us∈ps→P (.vec "character" us .none))→(∀t∈acc,P t)→(∀t∈cO,P t)∧cO.length=acc.length+ds.length
 |ps,[],i,acc,cO,h,_,ha=>by
  have h:(.inr acc:Str ⊕ List T)=.inr cO:=by induction ps<;>exact h
  exact Sum.inr.inj h▸⟨ha,rfl⟩
 |[],e::r,i,acc,cO,h,_,ha=>by
  refine (m7 P h0 [] r (i+1) _ cO h (fun us hu=>absurd hu List.not_mem_nil) fun t ht=>(List.mem_append.mp ht).elim (ha t) fun q=>List.mem_singleton.mp q▸h0).elim fun h1 h2=>?_
  exact ⟨h1,h2.trans (by rw [List.length_append];exact Nat.add_right_comm _ _ _)⟩
 |p::ps,e::r,i,acc,cO,h,hp,ha=>by
  rw [iZ] at h
  induction hs:kL p e i with
  |inl m=>rw [hs] at h;exact nomatch h
  |inr t=>
   rw [hs] at h
   have ht:P (IK t):=by
    induction p with
    |none=>exact Sum.inr.inj hs▸h0
    |some us=>
     have hs:(if (us.length:Int)≠e∧0 < us.length then .inl (EU i) else .inr (.vec "character" us .none):Str ⊕ T)=.inr t:=hs;by_cases hc:(us.length:Int)≠e∧0 < us.length
     ·rw [if_pos hc] at hs;exact nomatch hs
     ·rw [if_neg hc] at hs
      induction us with
      |nil=>exact Sum.inr.inj hs▸h0
      |cons u us=>exact Sum.inr.inj hs▸hp _ (.head _)
   refine (m7 P h0 ps r (i+1) _ cO h (fun us hu=>hp us (.tail _ hu)) fun u hu=>(List.mem_append.mp hu).elim (ha u) fun q=>List.mem_singleton.mp q▸ht).elim fun h1 h2=>?_
   exact ⟨h1,h2.trans (by rw [List.length_append];exact Nat.add_right_comm _ _ _)⟩
theorem oR {x y:Str}:"="++x=("=":Str)++y↔x=y:=by
 constructor
 ·intro e;have e1:(("=":Str)++x).cps=(("=":Str)++y).cps:=congrArg Str.cps e;have e2:("=":Str).cps++x.cps=("=":Str).cps++y.cps:=e1;have e4:=congrArg Array.toList e2;rw [Array.toList_append,Array.toList_append] at e4;have e3:x.cps=y.cps:=Array.toList_inj.mp (List.append_cancel_left e4);induction x;induction y;subst e3;rfl
 ·intro e;rw [e]
theorem ud {x:Str}:"="++x≠("?":Str):=by
 intro e;have e1:(("=":Str)++x).cps.toList=("?":Str).cps.toList:=congrArg (fun s:Str=>s.cps.toList) e;have e2:(("=":Str)++x).cps.toList=("=":Str).cps.toList++x.cps.toList:=Array.toList_append;rw [e2,show ("=":Str).cps.toList=[61] from by decide +kernel,show ("?":Str).cps.toList=[63] from by decide +kernel] at e1;exact absurd (List.cons.inj e1).1 (by decide)
theorem Fb (u:T)(done:List T)(hu:fR u)(hd:∀t∈done,fR t):rW u done=some (done.any fun w=>decide (fe w=fe u)):=by
 have hf:done.all fV=true:=by
  rw [List.all_eq_true];intro t ht;rcases hd t ht with rfl|⟨x,rfl,_⟩<;>rfl
 have wg:∀q:T→Bool,(∀w∈done,q w=decide (fe w=fe u))→done.any q=done.any fun w=>decide (fe w=fe u):=by
  intro q hq;clear hf
  induction done with
  |nil=>rfl
  |cons w r ih=>
   rw [List.any_cons,List.any_cons,hq w (by simp),ih (fun t ht=>hd t (by simp [ht])) (fun t ht=>hq t (by simp [ht]))]
 rcases hu with rfl|⟨x,rfl,_⟩
 ·show (if done.all fV=true then some (done.any fU) else none)=_;rw [if_pos hf,wg fU];intro w hw;rcases hd w hw with rfl|⟨y,rfl,_⟩
  ·exact (decide_eq_true rfl).symm
  ·exact (decide_eq_false ud).symm
 ·show (if done.all fV=true then some (done.any (qA x)) else none)=_;rw [if_pos hf,wg (qA x)];intro w hw;rcases hd w hw with rfl|⟨y,rfl,_⟩
  ·exact (decide_eq_false (fun e=>ud (show ("=":Str)++x="?" from e.symm))).symm
  ·show decide (y=x)=decide (("=":Str)++y="="++x);by_cases h:y=x
   ·rw [decide_eq_true h,decide_eq_true (oR.mpr h)]
   ·rw [decide_eq_false h,decide_eq_false (fun e=>h (oR.mp e))]
theorem IQ {u:T}{done:List T}(hu:fR u)(hd:∀t∈done,fR t)(s:Sg):(fi .In (u,.val) (.list done)>>=val) s=.ok (.bool (done.any fun w=>decide (fe w=fe u)),.val) s:=by
 have e2:qB .In u (.list done)=rW u done:=by rcases hu with rfl|⟨x,rfl,_⟩<;>rfl
 have e:fi .In (u,.val) (.list done) s=.ok (.bool (done.any fun w=>decide (fe w=fe u))) s:=by
  show (match qB .In u (.list done) with
   |some r=>(Res.ok (T.bool r) s:Res T)
   |none=>.stuck)=_
  rw [e2,Fb u done hu hd]
 exact bf e
section
variable (d:Nat)(s:Sg){seen:List (Str×T)}{lk:Lk}(S:Seen seen lk){k:Str}(n:Nat)
include S
theorem xJ {L:Ev}{e:Expr}{nm:Str}(hc:cK (ae d) L (seen.map fun p=>.str p.1) .val e=l9 (seen.map fun p=>.str p.1) .val (oB (ae d) L e) (ET (ae d) L e) (lQ (ae d) L e))(h1:∀p,oB (ae d) L e (.str p.1) s=.ok (bH nm p) s)(h2:∀p:Str×T,ET (ae d) L e (.str p.1) s=.ok (.str p.1,.val) s)(h3:∀p∈seen,lQ (ae d) L e (.str p.1) s=.ok (p.2,.val) s):cK (ae d) L (seen.map fun p=>.str p.1) .val e s=.ok (.dict (seen.filter (bH nm)),.own) s:=
 qj hc uy S.nd (bH nm) (fun p _=>h1 p) (fun p _=>h2 p) fun p hp=>.v (h3 p hp)
theorem cq (nm:Str)(v:T):cK (ae d) (Lf "_law_set" [some (.dict seen),some (.str k),some (.int n),some (.str nm),some v] []).ev (seen.map fun p=>.str p.1) .val (gI "_law_set" [] 2 [0]) s=.ok (.dict (seen.filter (bH nm)),.own) s:=
 xJ d s S (by kernel_rfl) (fun p=>by induction hb:bH nm p<;>exact runC (.t 0 hb .nil) (by kernel_rfl)) (fun p=>by kernel_rfl) fun p hp=>eC (.p "i" 0 (bY (dc S.nd hp)) .nil) (by kernel_rfl)
theorem lY (v sd:T):cK (ae d) (Lf "_law_dimnames_set" [some (.dict seen),some v,some sd] []).ev (seen.map fun p=>.str p.1) .val (gI "_law_dimnames_set" [] 3 [0]) s=.ok (.dict (seen.filter (bH "dimnames")),.own) s:=
 xJ d s S (by kernel_rfl) (fun p=>by induction hb:bH "dimnames" p<;>exact runC (.t 0 hb .nil) (by kernel_rfl)) (fun p=>by kernel_rfl) fun p hp=>eC (.p "i" 0 (bY (dc S.nd hp)) .nil) (by kernel_rfl)
variable (hk:k≠"NULL")
include hk
theorem Cq {nm:Str}(h:nm∈(["dimnames","class","levels","row.names","unit"]:List Str)):ae (d+1) "_law_set" [.dict seen,.str k,.int n,.str nm,.null] s=.ok (.dict (seen.filter (bH nm)),.own) s:=by
 simp only [List.mem_cons,List.not_mem_nil,or_false] at h;rcases h with rfl|rfl|rfl|rfl|rfl
 ·exact run (.t 0 (dF hk) <| .v "[]" 0 (cq (k:=k) d s S n "dimnames" .null) .nil) (by kernel_rfl)
 ·exact run (.t 0 (dF hk) <| .v "[]" 0 (cq (k:=k) d s S n "class" .null) .nil) (by kernel_rfl)
 ·exact run (.t 0 (dF hk) <| .v "[]" 0 (cq (k:=k) d s S n "levels" .null) .nil) (by kernel_rfl)
 ·exact run (.t 0 (dF hk) <| .v "[]" 0 (cq (k:=k) d s S n "row.names" .null) .nil) (by kernel_rfl)
 ·exact run (.t 0 (dF hk) <| .v "[]" 0 (cq (k:=k) d s S n "unit" .null) .nil) (by kernel_rfl)
theorem Cr:ae (d+1) "_law_set" [.dict seen,.str k,.int n,.str "dim",.null] s=.ok (.dict (cD (seen.filter (bH "dim")) "dimnames"),.own) s:=
 run (.t 0 (dF hk) <| .v "[]" 0 (cq (k:=k) d s S n "dim" .null) .nil) (by kernel_rfl)
theorem gN (nm:Str):decide ((seen.filter (bH nm)).length < aq)=true:=dT (Nat.lt_of_le_of_lt (List.length_filter_le _ _) (Nat.lt_trans S.sz (by decide)))
section
variable {k':Str}(dh:k'≠"NULL")(us:List T)(a:T)
include dh
theorem Lh {r:T}(hv:ae d "_law_view" [.vec k' us a] s=.ok (r,.val) s):ae (d+1) "_law_set" [.dict seen,.str k,.int n,.str "unit",.vec k' us a] s=.ok (.dict (dput (seen.filter (bH "unit")) "unit" r),.own) s:=
 run (.t 0 (dF hk) <| .v "[]" 0 (cq (k:=k) d s S n "unit" (.vec k' us a)) <| .t 0 (dF dh) <| .c 0 hv <| .t 0 (gN S hk "unit") .nil) (by kernel_rfl)
theorem Fc {r:T}(Lc:k'≠"character")(hv:ae d "_law_view" [.vec k' us a] s=.ok (r,.val) s):ae (d+1) "_law_set" [.dict seen,.str k,.int n,.str "levels",.vec k' us a] s=.ok (.dict (dput (seen.filter (bH "levels")) "levels" r),.own) s:=
 run (.t 0 (dF hk) <| .v "[]" 0 (cq (k:=k) d s S n "levels" (.vec k' us a)) <| .t 0 (dF dh) <| .t 4 (dF Lc) <| .c 0 hv <| .t 0 (gN S hk "levels") .nil) (by kernel_rfl)
theorem zc (Lc:k'≠"character"):ae (d+1) "_law_set" [.dict seen,.str k,.int n,.str "class",.vec k' us a] s=.ok (.str "attempt to set invalid 'class' attribute",.val) s:=
 run (.t 0 (dF hk) <| .v "[]" 0 (cq (k:=k) d s S n "class" (.vec k' us a)) <| .t 0 (dF dh) <| .t 3 (nT Lc) .nil) (by kernel_rfl)
theorem Ct {m:Str}(h:ae d "_law_dims" [.vec k' us a] s=.ok (.str m,.val) s):ae (d+1) "_law_set" [.dict seen,.str k,.int n,.str "dim",.vec k' us a] s=.ok (.str m,.val) s:=
 run (.t 0 (dF hk) <| .v "[]" 0 (cq (k:=k) d s S n "dim" (.vec k' us a)) <| .t 0 (dF dh) <| .c 0 h .nil) (by kernel_rfl)
theorem Li {r:T×Kd}(hr:r.2=.val∨r.2=.own)(h:ae d "_law_dimnames_set" [.dict seen,.vec k' us a] s=.ok r s):ae (d+1) "_law_set" [.dict seen,.str k,.int n,.str "dimnames",.vec k' us a] s=.ok r s:=by
 obtain ⟨r,kd⟩:=r;rcases hr with rfl|rfl<;>exact run (.t 0 (dF hk) <| .v "[]" 0 (cq (k:=k) d s S n "dimnames" (.vec k' us a)) <| .t 0 (dF dh) <| .c 0 h .nil) (by kernel_rfl)
end
theorem Cu:ae (d+1) "_law_set" [.dict seen,.str k,.int n,.str "class",.vec "character" [] .none] s=.ok (.dict (seen.filter (bH "class")),.own) s:=
 run (.t 0 (dF hk) <| .v "[]" 0 (cq (k:=k) d s S n "class" (.vec "character" [] .none)) .nil) (by kernel_rfl)
theorem Oe (u:T)(us:List T)(Fd:(u::us).all fV=true):ae (d+2) "_law_set" [.dict seen,.str k,.int n,.str "class",.vec "character" (u::us) .none] s=if (u::us).any (qA "factor")=true∧k≠"integer" then .ok (.str "adding class \"factor\" to an invalid object",.val) s else .ok (.dict (dput (seen.filter (bH "class")) "class" (.tup [.str "character",.list (u::us),.dict []])),.own) s:=by
 by_cases hc:(u::us).any (qA "factor")=true∧k≠"integer"
 ·rw [if_pos hc];exact run (.t 0 (dF hk) <| .v "[]" 0 (cq (k:=k) (d+1) s S n "class" (.vec "character" (u::us) .none)) <| .p "c" 6 (jm (x:="factor") Fd) <| .t 0 hc.1 <| .t 0 (nT hc.2) .nil) (by kernel_rfl)
 ·rw [if_neg hc];by_cases hb:(u::us).any (qA "factor")=true
  ·exact run (.t 0 (dF hk) <| .v "[]" 0 (cq (k:=k) (d+1) s S n "class" (.vec "character" (u::us) .none)) <| .p "c" 6 (jm (x:="factor") Fd) <| .t 0 hb <| .t 0 (nF (Classical.byContradiction fun q=>hc ⟨hb,q⟩)) <| .t 6 (gN S hk "class") .nil) (by kernel_rfl)
  ·exact run (.t 0 (dF hk) <| .v "[]" 0 (cq (k:=k) (d+1) s S n "class" (.vec "character" (u::us) .none)) <| .p "c" 6 (jm (x:="factor") Fd) <| .t 0 (Bool.eq_false_iff.mpr hb) <| .t 6 (gN S hk "class") .nil) (by kernel_rfl)
end
section
variable (d:Nat)(s:Sg)
theorem qm (va vb vc vd ve ds F:T):∀(l:List Int) (t:Int) (o:Option T),(∀i,i≤l.length→aO (cc (l.take i) t)=true)→
  ∃o',eh (ae d) "side" (jD "_law_set" [4,3]) (l.map .int) (Lf "_law_set" [some va,some vb,some vc,some vd,some ve,none,some ds,some (.int t),o] [("found",F,.own)]) s=.ok (.next,(Lf "_law_set" [some va,some vb,some vc,some vd,some ve,none,some ds,some (.int (cc l t)),o'] [("found",F,.own)]).ev) s
 |[],t,o,_=>⟨o,rfl⟩
 |i::r,t,o,hs=>by
  obtain ⟨o',h⟩:=qm va vb vc vd ve ds F r (t * i) (some (.int i)) fun j hj=>hs (j+1) (Nat.succ_le_succ hj)
  exact ⟨o',aN (aV (.p "+" 0 (B8 (b:=i) (hs 0 (Nat.zero_le _))) .nil) (by kernel_rfl)) h⟩
section
variable {seen:List (Str×T)}{lk:Lk}(S:Seen seen lk){k:Str}(n:Nat)(hk:k≠"NULL")
include S
theorem Lj (p:Str×T):(([.str "names",.str "dimnames"]:List T).any (qA p.1))=(decide (("names":Str)=p.1)||decide (("dimnames":Str)=p.1)):=by
 show (_||(_||false))=_;rw [Bool.or_false];rfl
theorem IS (es:List (Str×T))(hn:(es.map (·.1)).Nodup)(L:Ev)(hL:L.loc "found"=some (.dict es))(Q5:cK (ae d) L (es.map fun p=>.str p.1) .val (gI "_law_set" [4] 5 [0])=l9 (es.map fun p=>.str p.1) .val (oB (ae d) L (gI "_law_set" [4] 5 [0])) (ET (ae d) L (gI "_law_set" [4] 5 [0])) (lQ (ae d) L (gI "_law_set" [4] 5 [0])))
  (h1:∀p b,(!(([.str "names",.str "dimnames"]:List T).any (qA p)))=b→oB (ae d) L (gI "_law_set" [4] 5 [0]) (.str p) s=.ok b s) (h2:∀p,ET (ae d) L (gI "_law_set" [4] 5 [0]) (.str p) s=.ok (.str p,.val) s) (h3:∀p t,es.lookup p=some t→lQ (ae d) L (gI "_law_set" [4] 5 [0]) (.str p) s=.ok (t,.val) s):cK (ae d) L (es.map fun p=>.str p.1) .val (gI "_law_set" [4] 5 [0]) s=.ok (.dict (es.filter q2),.own) s:=
 qj Q5 uy hn q2 (fun p _=>h1 p.1 _ (congrArg (!·) (Lj S p))) (fun p _=>h2 p.1) fun p hp=>.v (h3 p.1 p.2 (dc hn hp))
include hk
theorem Fe {k':Str}(dh:k'≠"NULL")(us:List T)(a:T){ds:List Int}(hp:∀i,i≤ds.length→aO (cc (ds.take i) 1)=true)(h0:0≤cc ds 1)(hn:n < 900)(h:ae d "_law_dims" [.vec k' us a] s=.ok (.list (ds.map .int),.own) s):
  ae (d+1) "_law_set" [.dict seen,.str k,.int n,.str "dim",.vec k' us a] s=if cc ds 1=(n:Int) then .ok (.dict (dput ((seen.filter (bH "dim")).filter q2) "dim" (.tup [.str "integer",.list (ds.map .int),.dict []])),.own) s else .ok (.str (yS (cc ds 1) n),.val) s:=by
 refine (qm d s (.dict seen) (.str k) (.int n) (.str "dim") (.vec k' us a) (.list (ds.map .int)) (.dict (seen.filter (bH "dim"))) ds 1 none hp).elim fun o e=>?_
 by_cases hq:cc ds 1=(n:Int)
 ·rw [if_pos hq];have nd:=df (bH "dim") S.nd;have q:=IS d s S (seen.filter (bH "dim")) nd (Lf "_law_set" [some (.dict seen),some (.str k),some (.int n),some (.str "dim"),some (.vec k' us a),some (.dict (seen.filter (bH "dim"))),some (.list (ds.map .int)),some (.int (cc ds 1)),o] []).ev (by kernel_rfl) (by kernel_rfl)
   (fun p b hb=>by induction b<;>exact runC (.t 0 hb .nil) (by kernel_rfl)) (fun p=>by kernel_rfl) fun p t ht=>eC (.p "i" 0 (bY ht) .nil) (by kernel_rfl)
  have hz:decide (((seen.filter (bH "dim")).filter q2).length < aq)=true:=dT (Nat.lt_of_le_of_lt (List.length_filter_le _ _) (of_decide_eq_true (gN S hk "dim")));exact run (.t 0 (dF hk) <| .v "[]" 0 (cq (k:=k) d s S n "dim" (.vec k' us a)) <| .t 0 (dF dh) <| .c 0 h <| .o "for" 0 e <| .t 0 (nF hq) <| .v "[]" 0 q <| .t 0 hz .nil) (by kernel_rfl)
 ·rw [if_neg hq]
  have hs:aO (cc ds 1)=true:=by
   have:=hp ds.length (Nat.le_refl _)
   rwa [List.take_length] at this
  have f1:=len_app PG (iS h0 (by have:=of_decide_eq_true hs;lia));have f2:=len_app f1 PH;have f3:=len_app f2 (cH (n:=n) (Nat.lt_trans hn (by decide)));have f4:=len_app f3 Ji;exact run (.t 0 (dF hk) <| .v "[]" 0 (cq (k:=k) d s S n "dim" (.vec k' us a)) <| .t 0 (dF dh) <| .c 0 h <| .o "for" 0 e <| .t 0 (nT hq) <| .p "str" 0 (fL hs) <| .p "+" 0 (cG f1 rfl) <| .p "+" 0 (cG f2 rfl) <| .p "str" 0 (fL (cf (Nat.lt_trans hn (by decide)))) <| .p "+" 0 (cG f3 rfl) <| .p "+" 0 (cG f4 rfl) .nil) (by kernel_rfl)
end
theorem ue (va vb vc F:T)(us:List T)(hn:us.length < 900)(Fd:∀u∈us,fR u):∀(todo done:List T) (o:Option T),us=done++todo→
  ∃o',eh (ae d) "spot" (jD "_law_set" [7,0]) ((List.range' done.length todo.length).map fun i:Nat=>T.int (i:Int)) (Lf "_law_set" [some va,some vb,some vc,some (.str "levels"),some (.vec "character" us .none),none,none,none,none,o] [("found",F,.own)]) s=.ok (match kK done todo with
   |some i=>.ret (.str (yR i)) .val
   |none=>.next,(Lf "_law_set" [some va,some vb,some vc,some (.str "levels"),some (.vec "character" us .none),none,none,none,none,o'] [("found",F,.own)]).ev) s
 |[],done,o,_=>⟨o,rfl⟩
 |u::r,done,o,e=>by
  have hu:us[done.length]?=some u:=by rw [e];exact List.getElem?_append_right (Nat.le_refl _) |>.trans (by rw [Nat.sub_self];rfl)
  have hd:done.length < 900:=Nat.lt_of_le_of_lt (by rw [e,List.length_append];exact Nat.le_add_right _ _) hn;have ht:(us.take done.length).drop 0=done:=by rw [List.drop_zero,e,List.take_left]
  have PQ:∀s,(fi .In (u,.val) (.list ((us.take done.length).drop 0))>>=val) s=.ok (.bool (done.any fun w=>decide (fe w=fe u)),.val) s:=fun s=>by
   rw [ht];exact IQ (Fd u (by rw [e];exact List.mem_append_right _ (.head _))) (fun t ht=>Fd t (by rw [e];exact List.mem_append_left _ ht)) s
  rw [xA];by_cases hb:(done.any fun w=>decide (fe w=fe u))=true
  ·rw [if_pos hb];have f1:=len_app PL (cH (n:=done.length+1) (Nat.lt_trans (Nat.succ_lt_succ hd) (by decide)));have f2:=len_app f1 PM;exact ⟨some (.int done.length),fZ (aV (.p "i" 0 (bl hu) <| .p "c" 0 PQ <| .t 0 hb <| .p "str" 0 (fL (eD (Nat.lt_trans hd (by decide)))) <| .p "+" 0 (cG f1 rfl) <| .p "+" 0 (cG f2 rfl) .nil) (by kernel_rfl))⟩
  ·rw [if_neg hb];obtain ⟨o',h⟩:=ue va vb vc F us hn Fd r (done++[u]) (some (.int done.length)) (by rw [e,List.append_assoc];rfl);rw [List.length_append] at h;exact ⟨o',aN (aV (.p "i" 0 (bl hu) <| .p "c" 0 PQ <| .t 0 (Bool.eq_false_iff.mpr hb) .nil) (by kernel_rfl)) h⟩
section
variable {seen:List (Str×T)}{lk:Lk}(S:Seen seen lk){k:Str}(n:Nat)(hk:k≠"NULL")
include S hk
theorem Ff (us:List T)(Fd:∀u∈us,fR u)(hn:us.length < 900):ae (d+2) "_law_set" [.dict seen,.str k,.int n,.str "levels",.vec "character" us .none] s=match kK [] us with
   |some i=>.ok (.str (yR i),.val) s
   |none=>.ok (.dict (dput (seen.filter (bH "levels")) "levels" (.tup [.str "character",.list us,.dict []])),.own) s:=by
 refine (ue (d+1) s (.dict seen) (.str k) (.int n) (.dict (seen.filter (bH "levels"))) us hn Fd us [] none rfl).elim fun o e=>?_
 induction hd:kK [] us with
 |some i=>
  rw [hd] at e;exact run (.t 0 (dF hk) <| .v "[]" 0 (cq (k:=k) (d+1) s S n "levels" (.vec "character" us .none)) <| .l 0 (aQ (Nat.lt_trans hn (by decide))) <| .o "for" 0 e .nil) (by kernel_rfl)
 |none=>
  rw [hd] at e;exact run (.t 0 (dF hk) <| .v "[]" 0 (cq (k:=k) (d+1) s S n "levels" (.vec "character" us .none)) <| .l 0 (aQ (Nat.lt_trans hn (by decide))) <| .o "for" 0 e <| .t 5 (gN S hk "levels") .nil) (by kernel_rfl)
theorem qo {k':Str}(dh:k'="logical"∨k'="list")(us:List T)(a:T):ae (d+1) "_law_set" [.dict seen,.str k,.int n,.str "row.names",.vec k' us a] s=.ok (.str ("row names must be 'character' or 'integer', not '"++k'++"'"),.val) s:=by
 rcases dh with rfl|rfl
 ·exact run (.t 0 (dF hk) <| .v "[]" 0 (cq (k:=k) d s S n "row.names" (.vec "logical" us a)) .nil) (by kernel_rfl)
 ·exact run (.t 0 (dF hk) <| .v "[]" 0 (cq (k:=k) d s S n "row.names" (.vec "list" us a)) .nil) (by kernel_rfl)
theorem zd (us:List T):ae (d+1) "_law_set" [.dict seen,.str k,.int n,.str "row.names",.vec "character" us .none] s=.ok (.dict (dput (seen.filter (bH "row.names")) "row.names" (.tup [.str "character",.list us,.dict []])),.own) s:=
 run (.t 0 (dF hk) <| .v "[]" 0 (cq (k:=k) d s S n "row.names" (.vec "character" us .none)) <| .t 10 (gN S hk "row.names") .nil) (by kernel_rfl)
theorem ze (l:List (Option Int))(hx:∀x,some x∈l→x.natAbs≤20):ae (d+1) "_law_set" [.dict seen,.str k,.int n,.str "row.names",.vec "integer" (l.map cL) .none] s=.ok (.dict (dput (seen.filter (bH "row.names")) "row.names" (.tup [.str "integer",.list (pq l),.dict []])),.own) s:=by
 have other (h:decide (((l.map cL).length:Int)=2)=false) (hr:pq l=l.map cL):ae (d+1) "_law_set" [.dict seen,.str k,.int n,.str "row.names",.vec "integer" (l.map cL) .none] s=.ok (.dict (dput (seen.filter (bH "row.names")) "row.names" (.tup [.str "integer",.list (pq l),.dict []])),.own) s:=by
  rw [hr];exact run (.t 0 (dF hk) <| .v "[]" 0 (cq (k:=k) d s S n "row.names" (.vec "integer" (l.map cL) .none)) <| .t 9 h <| .t 1 (gN S hk "row.names") .nil) (by kernel_rfl)
 rcases l with _|⟨p,_|⟨q,_|⟨w,l⟩⟩⟩
 ·exact other rfl rfl
 ·exact other rfl (by induction p<;>rfl)
 ·induction p with
  |some x=>exact run (.t 0 (dF hk) <| .v "[]" 0 (cq (k:=k) d s S n "row.names" (.vec "integer" ([some x,q].map cL) .none)) <| .t 12 (gN S hk "row.names") .nil) (by kernel_rfl)
  |none=>
   induction q with
   |none=>exact run (.t 0 (dF hk) <| .v "[]" 0 (cq (k:=k) d s S n "row.names" (.vec "integer" ([none,none].map cL) .none)) <| .t 13 (gN S hk "row.names") .nil) (by kernel_rfl)
   |some x=>exact run (.t 0 (dF hk) <| .v "[]" 0 (cq (k:=k) d s S n "row.names" (.vec "integer" ([none,some x].map cL) .none)) <| .p "list" 1 (list_range x.natAbs (Nat.lt_of_le_of_lt (hx x (.tail _ (.head _))) (by decide))) <| .t 1 (gN S hk "row.names") .nil) (by kernel_rfl)
 ·exact other (bN (b:=2) (by simp)) (by induction p<;>induction q<;>rfl)
end
end
section
variable (d:Nat)(s:Sg){seen:List (Str×T)}{lk:Lk}(S:Seen seen lk){k:Str}(n:Nat)(hk:k≠"NULL")
include S hk
theorem zf (l:List Nat):ae (d+1) "_law_set" [.dict seen,.str k,.int n,.str "row.names",.vec "double" (l.map cz) .none] s=.ok (.dict (dput (seen.filter (bH "row.names")) "row.names" (.tup [.str "integer",.list (l.map fun _=>.none),.dict []])),.own) s:=by
 have q:=comp_map (G:=ae d) (L:=(Lf "_law_set" [some (.dict seen),some (.str k),some (.int n),some (.str "row.names"),some (.vec "double" (l.map cz) .none),none,none,none,none,none,some (.list (l.map cz))] [("found",.dict (seen.filter (bH "row.names")),.own)]).ev) (e:=gI "_law_set" [8,2] 0 [0]) (l:=l.map cz) (k:=.val) (s:=s) (by kernel_rfl) uy (fun _=>.none) (fun t _=>by kernel_rfl) fun t ht=>.v (eC .nil (by kernel_rfl))
 rw [List.map_map] at q
 have other (h:decide (((l.map fun _=>T.none).length:Int)=2)=false):ae (d+1) "_law_set" [.dict seen,.str k,.int n,.str "row.names",.vec "double" (l.map cz) .none] s=.ok (.dict (dput (seen.filter (bH "row.names")) "row.names" (.tup [.str "integer",.list (l.map fun _=>.none),.dict []])),.own) s:=
  run (.t 0 (dF hk) <| .v "[]" 0 (cq (k:=k) d s S n "row.names" (.vec "double" (l.map cz) .none)) <| .v "[]" 0 q <| .t 1 h <| .t 1 (gN S hk "row.names") .nil) (by kernel_rfl)
 rcases l with _|⟨p,_|⟨q',_|⟨w,l⟩⟩⟩
 ·exact other rfl
 ·exact other rfl
 ·exact run (.t 0 (dF hk) <| .v "[]" 0 (cq (k:=k) d s S n "row.names" (.vec "double" ([p,q'].map cz) .none)) <| .v "[]" 0 q <| .t 5 (gN S hk "row.names") .nil) (by kernel_rfl)
 ·exact other (bN (b:=2) (by simp))
omit hk
theorem IT (v:T)(h:seen.lookup ("dim":Str)=none):ae (d+1) "_law_dimnames_set" [.dict seen,v] s=.ok (.str "'dimnames' applied to non-array",.val) s:=run (.t 0 (E9 h) .nil) (by kernel_rfl)
section
variable {t:T}(h:seen.lookup ("dim":Str)=some t)
include h
theorem Cv {k':Str}(dh:k'≠"list")(us:List T)(a:T):ae (d+1) "_law_dimnames_set" [.dict seen,.vec k' us a] s=.ok (.str "'dimnames' must be a list",.val) s:=run (.t 0 (hW h) <| .t 0 (nT dh) .nil) (by kernel_rfl)
end
section
variable {DS:List Int}(h:seen.lookup ("dim":Str)=some (.tup [.str "integer",.list (DS.map .int),.dict []]))
include h
theorem zg (a:T):ae (d+1) "_law_dimnames_set" [.dict seen,.vec "list" [] a] s=.ok (.dict (seen.filter (bH "dimnames")),.own) s:=
 run (.t 0 (hW h) <| .p "i" 0 (bY h) <| .v "[]" 0 (lY d s S (.vec "list" [] a) (.list (DS.map .int))) .nil) (by kernel_rfl)
theorem Cw (p:T)(ps:List T)(a:T)(hl:(DS.map T.int).length < (p::ps).length)(hb:(p::ps).length < 900):ae (d+1) "_law_dimnames_set" [.dict seen,.vec "list" (p::ps) a] s=.ok (.str (v5 (p::ps).length (DS.map T.int).length),.val) s:=by
 have E7:=Nat.lt_trans hb (by decide:900 < 1000);have f1:=len_app L8 (cH (n:=(p::ps).length) E7);have f2:=len_app f1 PO;have f3:=len_app f2 (cH (n:=(DS.map T.int).length) (Nat.lt_trans hl E7));have f4:=len_app f3 Ji;exact run (.t 0 (hW h) <| .p "i" 0 (bY h) <| .v "[]" 0 (lY d s S (.vec "list" (p::ps) a) (.list (DS.map .int))) <| .t 1 (iT hl) <| .p "str" 0 (fL (cf E7)) <| .p "+" 0 (cG f1 rfl) <| .p "+" 0 (cG f2 rfl) <| .p "str" 0 (fL (cf (Nat.lt_trans hl E7))) <| .p "+" 0 (cG f3 rfl) <| .p "+" 0 (cG f4 rfl) .nil) (by kernel_rfl)
section
variable {p:Option (List T)}{ps:List (Option (List T))}(hh:Option (List T))(eZ:DS.length < 30)(hl:(p::ps).length≤DS.length)
include eZ hl
theorem uf {m:Str}(he:rH (p::ps) DS 0 []=.inl m):ae (d+1) "_law_dimnames_set" [.dict seen,.vec "list" ((p::ps).map bh) (bq hh)] s=.ok (.str m,.val) s:=by
 obtain ⟨o,o2,oQ,q⟩:=kU d s (.dict seen) (.dict (seen.filter (bH "dimnames"))) (bq hh) (p::ps) DS (Nat.lt_trans eZ (by decide)) DS (p::ps) 0 [] none none rfl rfl rfl;rw [he,←List.length_map (as:=DS) T.int] at q;rw [←List.length_map (as:=DS) T.int] at hl eZ;exact run (.t 0 (hW h) <| .p "i" 0 (bY h) <| .v "[]" 0 (lY d s S (.vec "list" ((p::ps).map bh) (bq hh)) (.list (DS.map .int))) <| .t 1 (fM (List.length_map (as:=p::ps) bh▸hl)) <| .l 0 (aQ (Nat.lt_trans eZ (by decide))) <| .o "for" 0 q .nil) (by kernel_rfl)
theorem zh {acc:List T}(he:rH (p::ps) DS 0 []=.inr acc)(hx:∀hs,hh=some hs→hs.length≤DS.length):ae (d+1) "_law_dimnames_set" [.dict seen,.vec "list" ((p::ps).map bh) (bq hh)] s=.ok (.dict (if (hh.isSome||acc.any lh)=true then dput (seen.filter (bH "dimnames")) "dimnames" (vw (.vec "list" acc (bq (rI hh DS.length)))) else seen.filter (bH "dimnames")),.own) s:=by
 obtain ⟨o,o2,oQ,q⟩:=kU d s (.dict seen) (.dict (seen.filter (bH "dimnames"))) (bq hh) (p::ps) DS (Nat.lt_trans eZ (by decide)) DS (p::ps) 0 [] none none rfl rfl rfl;have GB:=(m7 GQ (.inl rfl) (p::ps) DS 0 [] acc he (fun us _=>.inr ⟨us,rfl⟩) (fun t ht=>absurd ht List.not_mem_nil)).1;have hz:decide ((seen.filter (bH "dimnames")).length < aq)=true:=dT (Nat.lt_of_le_of_lt (List.length_filter_le _ _) (Nat.lt_trans S.sz (by decide)));rw [he,←List.length_map (as:=DS) T.int] at q;rw [←List.length_map (as:=DS) T.int] at hl eZ
 induction hh with
 |some hs=>
  have hx:=hx hs rfl;rw [←List.length_map (as:=DS) T.int] at hx;have h8:=Nat.le_of_lt (Nat.lt_trans eZ (by decide:30 < 1000))
  skip
  rw [←List.length_map (as:=DS) T.int];exact run (.t 0 (hW h) <| .p "i" 0 (bY h) <| .v "[]" 0 (lY d s S (.vec "list" ((p::ps).map bh) (bq (some hs))) (.list (DS.map .int))) <| .t 1 (fM (List.length_map (as:=p::ps) bh▸hl)) <| .l 0 (aQ (Nat.lt_trans eZ (by decide))) <| .o "for" 0 q <| .p "+" 1 (kS (u:=.str "") hx h8) <| .p "+" 0 (m6 (u:=.str "") hx h8) <| .t 1 hz .nil) (by kernel_rfl)
 |none=>
  have w:=mC (G:=ae d) (L:=(Lf "_law_dimnames_set" [some (.dict seen),some (.vec "list" ((p::ps).map bh) .none),some (.list (DS.map .int)),none,some (.list (acc.map j0)),o,o2,some (.dict [])] [("found",.dict (seen.filter (bH "dimnames")),.own)]).ev) (e:=gI "_law_dimnames_set" [] 10 [1,0]) (l:=acc.map j0) (k:=.val) (s:=s) (by kernel_rfl) uy isTup (fun t ht=>by
   obtain ⟨u,hu,rfl⟩:=List.mem_map.mp ht;rcases GB u hu with rfl|⟨us,rfl⟩<;>exact runC .nil (by kernel_rfl)) fun t ht=>.v (eC .nil (by kernel_rfl))
  rcases xI acc GB with ⟨ef,ea⟩|⟨⟨t,r,ef⟩,ea⟩
  ·rw [ef] at w;rw [ea];exact run (.t 0 (hW h) <| .p "i" 0 (bY h) <| .v "[]" 0 (lY d s S (.vec "list" ((p::ps).map bh) .none) (.list (DS.map .int))) <| .t 1 (fM (List.length_map (as:=p::ps) bh▸hl)) <| .l 0 (aQ (Nat.lt_trans eZ (by decide))) <| .o "for" 0 q <| .v "[]" 0 w .nil) (by kernel_rfl)
  ·rw [ef] at w;rw [ea];exact run (.t 0 (hW h) <| .p "i" 0 (bY h) <| .v "[]" 0 (lY d s S (.vec "list" ((p::ps).map bh) .none) (.list (DS.map .int))) <| .t 1 (fM (List.length_map (as:=p::ps) bh▸hl)) <| .l 0 (aQ (Nat.lt_trans eZ (by decide))) <| .o "for" 0 q <| .v "[]" 0 w <| .t 1 hz .nil) (by kernel_rfl)
end
end
end
section
variable (d:Nat)(s:Sg){seen:List (Str×T)}{lk:Lk}(S:Seen seen lk){k:Str}(n:Nat)(hk:k≠"NULL")(uz:n≤8)
include S
theorem Cy (v:Vl)(hv:v.ok)(hn:v≠.nul):fS (ae (d+1) "_law_dimnames_set" [.dict seen,v.t] s) s seen lk (jj lk v):=by
 rw [jV hn];rcases S.IM with ⟨h,hd⟩|⟨DS,b1,b2,h,hd⟩
 ·rw [hd];exact IT d s S v.t h
 ·rw [hd]
  induction v with
  |lst ps hh=>
   obtain ⟨v1,v2,v3⟩:=hv;show fS (ae (d+1) "_law_dimnames_set" [.dict seen,.vec "list" (ps.map bh) (bq hh)] s) s seen lk (if ps.length=0 then .inr [("dimnames",none)] else if (DS.map T.int).length < ps.length then .inl (v5 ps.length (DS.map T.int).length) else
     (match rH ps (kM (DS.map .int)) 0 [] with
     |.inl m=>.inl m
     |.inr acc=>if (hh.isSome||acc.any lh)=true then .inr [("dimnames",some (.vec "list" acc (bq (rI hh (DS.map T.int).length))))] else .inr [("dimnames",none)]))
   rw [qg]
   cases ps with
   |nil=>exact dS S (zg d s S h _)
   |cons p ps=>
    rw [if_neg (show ¬(p::ps).length=0 from Nat.succ_ne_zero _)];have hm:=List.length_map (as:=p::ps) bh;by_cases hl:(DS.map T.int).length < (p::ps).length
    ·rw [if_pos hl];have q:=Cw d s S h (bh p) (ps.map bh) (bq hh) (hm.symm▸hl) (Nat.lt_of_le_of_lt (hm.symm▸v1) (by decide));rw [show (bh p::ps.map bh).length=(p::ps).length from hm] at q;exact q
    ·rw [if_neg hl,List.length_map];have hl:=List.length_map (as:=DS) T.int▸Nat.le_of_not_lt hl;have eZ:DS.length < 30:=Nat.lt_of_le_of_lt b2 (by decide)
     cases he:rH (p::ps) DS 0 [] with
     |inl m=>exact uf d s S h hh eZ hl he
     |inr acc=>
      have q:=zh d s S h hh eZ hl he fun hs e=>(v3 hs e).1▸hl
      show fS _ _ _ _ (if (hh.isSome||acc.any lh)=true then _ else _);by_cases hc:(hh.isSome||acc.any lh)=true
      ·rw [if_pos hc] at q ⊢;exact cB S rfl q
      ·rw [if_neg hc] at q ⊢;exact dS S q
  |nul=>exact absurd rfl hn
  |_=>exact Cv d s S h (by decide +kernel) _ _
include hk uz
theorem qp (v:Vl)(hv:v.ok):fS (ae (d+4) "_law_set" [.dict seen,.str k,.int n,.str "names",v.t] s) s seen lk (iV lk n v):=by
 by_cases hn:v=.nul
 ·subst hn;exact Ci S (wm (d+1) s S hk n)
 ·have hw:=za (d+1) s v hv hn;rw [iY hn];obtain ⟨k',us,a,dh,e⟩:=hU hn;rw [e] at hw ⊢
  cases Of:words v with
  |none=>rw [Of] at hw;exact wo (d+1) s S hk n dh hw
  |some ws=>
   rw [Of] at hw;show fS _ _ _ _ (if n < ws.length then _ else _);by_cases hl:n < ws.length
   ·rw [if_pos hl];exact ub (d+1) s S hk n dh hw hl (qf hv Of)
   ·rw [if_neg hl];obtain ⟨t,ht,q⟩:=uc (d+1) s S hk n dh hw (Nat.le_of_not_lt hl) uz;exact Cj S ht q
theorem Fg (v:Vl)(hv:v.ok)(hn:v≠.nul):fS (ae (d+4) "_law_set" [.dict seen,.str k,.int n,.str "dim",v.t] s) s seen lk (jT n v):=by
 have he:jT n v=match iq v with
   |.inl m=>.inl m
   |.inr ds=>if cc ds 1=(n:Int) then .inr [("dim",some (.vec "integer" (ds.map .int) .none)),("names",none),("dimnames",none)] else .inl (yS (cc ds 1) n):=by
  induction v<;>first|exact absurd rfl hn|rfl
 rw [he];have hd:=Cp (d+2) s v hv hn;obtain ⟨k',us,a,dh,e⟩:=hU hn;rw [e] at hd ⊢
 cases Og:iq v with
 |inl m=>rw [Og] at hd;exact Ct (d+3) s S n hk dh us a hd
 |inr ds=>
  rw [Og] at hd;obtain ⟨b1,b2,b3⟩:=iX hv Og;obtain ⟨s1,s2⟩:=oL b1 b2;have q:=Fe (d+3) s S n hk dh us a s1 s2 (Nat.lt_of_le_of_lt uz (by decide)) hd;show fS _ _ _ _ (if cc ds 1=(n:Int) then _ else _);by_cases hp:cc ds 1=(n:Int)
  ·rw [if_pos hp] at q ⊢;exact Ck S rfl q
  ·rw [if_neg hp] at q ⊢;exact q
theorem zi (v:Vl)(hv:v.ok)(hn:v≠.nul):fS (ae (d+4) "_law_set" [.dict seen,.str k,.int n,.str "class",v.t] s) s seen lk (kN k v):=by
 induction v with
 |chr us=>
  induction us with
  |nil=>exact dS S (Cu (d+3) s S n hk)
  |cons u r=>
   have q:=Oe (d+2) s S n hk u r (tX hv.2);show fS _ _ _ _ (if (u::r).length=0 then .inr [("class",none)] else if (u::r).any (qA "factor")=true∧k≠"integer" then .inl "adding class \"factor\" to an invalid object" else .inr [("class",some (.vec "character" (u::r) .none))]:yT);rw [if_neg (show ¬(u::r).length=0 from Nat.succ_ne_zero _)];by_cases hc:(u::r).any (qA "factor")=true∧k≠"integer"
   ·rw [if_pos hc] at q ⊢;exact q
   ·rw [if_neg hc] at q ⊢;exact cB S rfl q
 |nul=>exact absurd rfl hn
 |_=>exact zc (d+3) s S n hk (by decide +kernel) _ _ (by decide +kernel)
theorem wq (v:Vl)(hv:v.ok)(hn:v≠.nul):fS (ae (d+4) "_law_set" [.dict seen,.str k,.int n,.str "levels",v.t] s) s seen lk (jk v):=by
 have oS:=ua (d+1) s v hn
 induction v with
 |chr us=>
  have q:=Ff (d+2) s S n hk us hv.2 (Nat.lt_of_le_of_lt hv.1 (by decide));show fS _ _ _ _ (match kK [] us with|some i=>.inl (yR i)|none=>.inr [("levels",some (.vec "character" us .none))])
  induction hd:kK [] us with
  |some i=>rw [hd] at q;exact q
  |none=>rw [hd] at q;exact cB S rfl q
 |nul=>exact absurd rfl hn
 |int l=>exact cB S (t:=(Vl.int l).t) rfl (Fc (d+3) s S n hk (by decide +kernel) _ _ (by decide +kernel) oS)
 |dbl l=>exact cB S (t:=(Vl.dbl l).t) rfl (Fc (d+3) s S n hk (by decide +kernel) _ _ (by decide +kernel) oS)
 |qe l=>exact cB S (t:=(Vl.qe l).t) rfl (Fc (d+3) s S n hk (by decide +kernel) _ _ (by decide +kernel) oS)
 |lst ps h=>exact cB S (t:=(Vl.lst ps h).t) rfl (Fc (d+3) s S n hk (by decide +kernel) _ _ (by decide +kernel) oS)
theorem Cz (v:Vl)(hv:v.ok)(hn:v≠.nul):fS (ae (d+4) "_law_set" [.dict seen,.str k,.int n,.str "row.names",v.t] s) s seen lk (mX v):=by
 induction v with
 |chr us=>exact cB S rfl (zd (d+3) s S n hk us)
 |int l=>exact cB S rfl (ze (d+3) s S n hk l hv.2)
 |dbl l=>exact cB S rfl (zf (d+3) s S n hk l)
 |qe l=>exact qo (d+3) s S n hk (.inl rfl) _ _
 |lst ps h=>exact qo (d+3) s S n hk (.inr rfl) _ _
 |nul=>exact absurd rfl hn
theorem Fh (name:Str)(kP:name∈(["names","dim","dimnames","class","levels","row.names","unit"]:List Str))(v:Vl)(hv:v.ok):fS (ae (d+4) "_law_set" [.dict seen,.str k,.int n,.str name,v.t] s) s seen lk (La lk k n name v):=by
 simp only [List.mem_cons,List.not_mem_nil,or_false] at kP;by_cases hn:v=.nul
 ·subst hn;rcases kP with rfl|rfl|rfl|rfl|rfl|rfl|rfl
  ·exact qp d s S n hk uz .nul hv
  ·exact pv S (Cr (d+3) s S n hk)
  ·exact dS S (Cq (d+3) s S n hk (.head _))
  ·exact dS S (Cq (d+3) s S n hk (.tail _ (.head _)))
  ·exact dS S (Cq (d+3) s S n hk (.tail _ (.tail _ (.head _))))
  ·exact dS S (Cq (d+3) s S n hk (.tail _ (.tail _ (.tail _ (.head _)))))
  ·exact dS S (Cq (d+3) s S n hk (.tail _ (.tail _ (.tail _ (.tail _ (.head _))))))
 ·rcases kP with rfl|rfl|rfl|rfl|rfl|rfl|rfl
  ·exact qp d s S n hk uz v hv
  ·exact Fg d s S n hk uz v hv hn
  ·show fS _ _ _ _ (jj lk v);have q:=Cy (d+2) s S v hv hn;obtain ⟨r,Mb,e'⟩:=wj q;obtain ⟨k',us,a,dh,e⟩:=hU hn;rw [e'] at q;rw [e] at e' ⊢;rw [Li (d+3) s S n hk dh us a Mb e'];exact q
  ·exact zi d s S n hk uz v hv hn
  ·exact wq d s S n hk uz v hv hn
  ·exact Cz d s S n hk uz v hv hn
  ·have he:hM v=.inr [("unit",some v.t)]:=by cases v<;>first|exact absurd rfl hn|rfl
   show fS _ _ _ _ (hM v);have oS:=ua (d+1) s v hn;rw [he];obtain ⟨k',us,a,dh,e⟩:=hU hn;rw [e] at oS ⊢;exact cB S rfl (Lh (d+3) s S n hk dh us a oS)
end
noncomputable def fQ (t:T):Prop:=t=.none∨∃x,t=.str x
noncomputable def xK (t:T):Prop:=t=.none∨(∃i,t=.int i)∨(∃x,t=.str x)∨∃i j,t=.tup [.int i,.int j]
noncomputable def pz (t:T):Prop:=∃us,t=.vec "character" us .none∧∀u∈us,fQ u
noncomputable def Good (t:T):Prop:=(∃(k':Str) (ts:List T),k'∈(["character","integer","double","logical"]:List Str)∧t=.vec k' ts .none∧∀u∈ts,xK u) ∨
 (∃(ps:List T) (h:Option (List T)),t=.vec "list" ps (bq h)∧(∀p∈ps,p=.null∨pz p)∧∀hs,h=some hs→∀u∈hs,fQ u)
structure GR (y:Str) (t:T):Prop where
 good:Good t
 names:y="names"→pz t
 Jh:y="dim"→∃ds:List Int,ds≠[]∧ds.length≤10∧t=.vec "integer" (ds.map .int) .none
 Oh:y="dimnames"→∃p ps h,t=.vec "list" (p::ps) (bq h)∧∀q∈p::ps,q=.null∨pz q
 cls:y="class"→∃u us,t=.vec "character" (u::us) .none∧∀w∈u::us,fQ w
noncomputable def Shape (lk:Lk):Prop:=∀y t,lk y=some t→GR y t
theorem CA {t:T}(h:fQ t):xK t:=by
 rcases h with rfl|⟨x,rfl⟩
 ·exact .inl rfl
 ·exact .inr (.inr (.inl ⟨x,rfl⟩))
theorem eU {t:T}(h:fR t):fQ t:=by
 rcases h with rfl|⟨x,rfl,_⟩
 ·exact .inl rfl
 ·exact .inr ⟨x,rfl⟩
theorem oU {t:T}(h:pz t):Good t:=by
 obtain ⟨us,rfl,hu⟩:=h;exact .inl ⟨_,us,by simp,rfl,fun u hm=>CA (hu u hm)⟩
theorem zj {t:T}(h:pz t):GR "names" t:=
 ⟨oU h,fun _=>h,fun e=>absurd e (by decide +kernel),fun e=>absurd e (by decide +kernel),fun e=>absurd e (by decide +kernel)⟩
theorem Fi {ds:List Int}(h1:ds≠[])(h2:ds.length≤10):GR "dim" (.vec "integer" (ds.map .int) .none):=
 ⟨.inl ⟨_,_,by simp,rfl,fun u hu=>by obtain ⟨i,_,rfl⟩:=List.mem_map.mp hu;exact .inr (.inl ⟨i,rfl⟩)⟩,fun e=>absurd e (by decide +kernel),fun _=>⟨ds,h1,h2,rfl⟩,fun e=>absurd e (by decide +kernel),fun e=>absurd e (by decide +kernel)⟩
theorem ug {p:T}{ps:List T}{h:Option (List T)}(h1:∀q∈p::ps,q=.null∨pz q)(h2:∀hs,h=some hs→∀u∈hs,fQ u):GR "dimnames" (.vec "list" (p::ps) (bq h)):=
 ⟨.inr ⟨_,h,rfl,h1,h2⟩,fun e=>absurd e (by decide +kernel),fun e=>absurd e (by decide +kernel),fun _=>⟨p,ps,h,rfl,h1⟩,fun e=>absurd e (by decide +kernel)⟩
theorem Fj {u:T}{us:List T}(h:∀w∈u::us,fQ w):GR "class" (.vec "character" (u::us) .none):=
 ⟨oU ⟨_,rfl,h⟩,fun e=>absurd e (by decide +kernel),fun e=>absurd e (by decide +kernel),fun e=>absurd e (by decide +kernel),fun _=>⟨u,us,rfl,h⟩⟩
theorem lZ {y:Str}{t:T}(hy:y∈(["levels","row.names","unit"]:List Str))(h:Good t):GR y t:=by
 simp only [List.mem_cons,List.not_mem_nil,or_false] at hy;rcases hy with rfl|rfl|rfl
 all_goals exact ⟨h,fun e=>absurd e (by decide +kernel),fun e=>absurd e (by decide +kernel),fun e=>absurd e (by decide +kernel),fun e=>absurd e (by decide +kernel)⟩
theorem wt {v:Vl}(hv:v.ok)(hn:v≠.nul):Good v.t:=by
 induction v with
 |chr us=>exact oU ⟨us,rfl,fun u hu=>eU (hv.2 u hu)⟩
 |int l=>
  refine .inl ⟨_,_,by simp,rfl,fun u hu=>?_⟩;obtain ⟨o,_,rfl⟩:=List.mem_map.mp hu
  cases o with
  |none=>exact .inl rfl
  |some i=>exact .inr (.inl ⟨i,rfl⟩)
 |qe l=>
  refine .inl ⟨_,_,by simp,rfl,fun u hu=>?_⟩;obtain ⟨o,_,rfl⟩:=List.mem_map.mp hu
  cases o with
  |none=>exact .inl rfl
  |some i=>exact .inr (.inl ⟨i,rfl⟩)
 |dbl l=>
  refine .inl ⟨_,_,by simp,rfl,fun u hu=>?_⟩;obtain ⟨o,_,rfl⟩:=List.mem_map.mp hu;exact .inr (.inr (.inr ⟨_,_,rfl⟩))
 |lst ps h=>
  refine .inr ⟨_,h,rfl,fun p hp=>?_,fun hs e u hu=>eU ((hv.2.2 hs e).2 u hu)⟩;obtain ⟨o,ho,rfl⟩:=List.mem_map.mp hp
  induction o with
  |none=>exact .inl rfl
  |some us=>exact .inr ⟨us,rfl,fun u hu=>eU ((hv.2.1 us ho).2 u hu)⟩
 |nul=>exact absurd rfl hn
theorem zk {v:Vl}(hv:v.ok){ws:List T}(h:words v=some ws):∀u∈ws,fQ u:=by
 have hh:∀(f:T→T) (l:List T),(∀t,f t=.none∨∃x,f t=.str x)→∀u∈l.map f,fQ u:=fun f l hf u hu=>by
  obtain ⟨t,_,rfl⟩:=List.mem_map.mp hu;exact hf t
 induction v with
 |chr us=>induction Option.some.inj h;exact fun u hu=>eU (hv.2 u hu)
 |int l=>cases h;exact hh hI _ (fun t=>by cases t<;>first|exact .inl rfl|exact .inr ⟨_,rfl⟩)
 |qe l=>cases h;exact hh hL _ (fun t=>by cases t<;>first|exact .inl rfl|exact .inr ⟨_,rfl⟩)
 |dbl l=>
  cases h;intro u hu;obtain ⟨t,ht,rfl⟩:=List.mem_map.mp hu;obtain ⟨s,_,rfl⟩:=List.mem_map.mp ht;exact .inr ⟨_,rfl⟩
 |lst ps RJ=>
  have e:fN ps []=some ws:=h;rw [lV] at e;split at e
  ·rename_i Cn;cases e;intro u hu;rw [List.nil_append] at hu;obtain ⟨t,ht,rfl⟩:=List.mem_map.mp hu;obtain ⟨p,hp,rfl⟩:=List.mem_map.mp ht;have:=List.all_eq_true.mp Cn p hp;rcases p with _|_|⟨w,r⟩
   ·cases this
   ·cases this
   ·exact eU ((hv.2.1 (w::r) hp).2 w (by simp))
  ·cases e
 |nul=>cases h
theorem dg {lk:Lk}{x:Str}(S:Shape lk):Shape (app [(x,none)] lk):=by
 intro y t e;rw [dw] at e;split at e
 ·exact bR e
 ·exact S y t e
theorem fC {lk:Lk}{x:Str}{t:T}(S:Shape lk)(h:GR x t):Shape (app [(x,some t)] lk):=by
 intro y t' e;rw [dw] at e;split at e
 ·rename_i hy;subst hy;induction Option.some.inj e;exact h
 ·exact S y t' e
theorem dU {lk:Lk}(S:Shape lk):lk "dim"=none∨∃ds:List Int,ds≠[]∧ds.length≤10∧lk "dim"=some (.vec "integer" (ds.map .int) .none):=by
 induction h:lk "dim" with
 |none=>exact .inl rfl
 |some t=>
  obtain ⟨ds,h1,h2,rfl⟩:=(S _ t h).Jh rfl;exact .inr ⟨ds,h1,h2,rfl⟩
theorem CB {lk:Lk}(S:Shape lk){ds:List T}(h:eS lk=some ds):ds≠[]:=by
 rcases dU S with h1|⟨DS,h1,h2,h3⟩
 ·unfold eS at h;rw [h1] at h;exact bR h
 ·unfold eS at h;rw [h3] at h;induction Option.some.inj h;simpa using h1
noncomputable def xM (lk:Lk):yT→Prop
 |.inl _=>True
 |.inr u=>Shape (app u lk)
theorem xN {ws:List T}{m:Nat}{u:T}(hw:∀u∈ws,fQ u)(hu:fQ u):∀t∈ws++List.replicate m u,fQ t:=fun t ht=>(List.mem_append.mp ht).elim (hw t) fun q=>List.eq_of_mem_replicate q▸hu
section
variable {lk:Lk}(S:Shape lk){v:Vl}(hv:v.ok)
include S hv
theorem CC (n:Nat):xM lk (iV lk n v):=by
 by_cases hn:v=.nul
 ·subst hn;exact dg S
 ·rw [iY hn]
  induction hw:words v with
  |none=>trivial
  |some ws=>
   show xM lk (if n < ws.length then .inl (B5 ws.length n) else .inr [(nameKey lk,some (fw lk (ws++List.replicate (n - ws.length) .none)))]);by_cases hc:n < ws.length
   ·rw [if_pos hc];trivial
   ·rw [if_neg hc];refine fC S ?_;have hl:=xN (m:=n - ws.length) (zk hv hw) (.inl rfl);unfold nameKey fw;by_cases hb:iU lk=true
    ·rw [if_pos hb,if_pos hb];exact ug (h:=none) (fun q hq=>.inr ⟨_,List.mem_singleton.mp hq,hl⟩) (fun hs e=>(bR e))
    ·rw [if_neg hb,if_neg hb];exact zj ⟨_,rfl,hl⟩
theorem IU (n:Nat):xM lk (jT n v):=by
 have two:∀{t:Option T} {r:List (Str×Option T)},(∀t',t=some t'→GR "dim" t')→(∀p∈r,p.2=none)→Shape (app (("dim",t)::r) lk):=fun {t r} ht hr y t' e=>by
  rw [fO] at e;by_cases hy:y="dim"
  ·rw [if_pos hy] at e;exact hy▸ht t' e
  ·rw [if_neg hy] at e;unfold app at e
   induction hl:r.lookup y with
   |none=>rw [hl] at e;exact S y t' e
   |some o=>
    rw [hl] at e;have:=hr (y,o) (List.lookup_eq_some_iff.mp hl |> fun ⟨l1,l2,h,_⟩=>h▸List.mem_append_right _ (.head _));exact absurd (this.symm.trans e) nofun
 by_cases hn:v=.nul
 ·subst hn;exact two nofun (fun p hp=>by rw [List.mem_singleton.mp hp])
 ·have he:jT n v=match iq v with
    |.inl m=>.inl m
    |.inr ds=>if cc ds 1=(n:Int) then .inr [("dim",some (.vec "integer" (ds.map .int) .none)),("names",none),("dimnames",none)] else .inl (yS (cc ds 1) n):=by
   induction v<;>first|exact absurd rfl hn|rfl
  rw [he]
  induction hd:iq v with
  |inl m=>trivial
  |inr ds=>
   show xM lk (if cc ds 1=(n:Int) then .inr [("dim",some (.vec "integer" (ds.map .int) .none)),("names",none),("dimnames",none)] else .inl (yS (cc ds 1) n));by_cases hp:cc ds 1=(n:Int)
   ·rw [if_pos hp];have b1:=(iX hv hd).1;have b2:=(iX hv hd).2.1;have b3:=(iX hv hd).2.2
    exact two (fun t e=>Option.some.inj e▸Fi b3 b2) (fun p hp=>by
     rcases List.mem_cons.mp hp with rfl|hp
     ·rfl
     ·rw [List.mem_singleton.mp hp])
   ·rw [if_neg hp];trivial
theorem Fl:xM lk (jj lk v):=by
 by_cases hn:v=.nul
 ·subst hn;exact dg S
 ·rw [jV hn]
  induction hd:eS lk with
  |none=>trivial
  |some ds=>
   induction v with
   |lst ps h=>
    show xM lk (if ps.length=0 then .inr [("dimnames",none)] else if ds.length < ps.length then .inl (v5 ps.length ds.length) else
     (match rH ps (kM ds) 0 [] with
     |.inl m=>.inl m
     |.inr acc=>if (h.isSome||acc.any lh)=true then .inr [("dimnames",some (.vec "list" acc (bq (rI h ds.length))))] else .inr [("dimnames",none)]))
    by_cases h0:ps.length=0
    ·rw [if_pos h0];exact dg S
    ·rw [if_neg h0];by_cases hl:ds.length < ps.length
     ·rw [if_pos hl];trivial
     ·rw [if_neg hl]
      induction he:rH ps (kM ds) 0 [] with
      |inl m=>trivial
      |inr acc=>
       show xM lk (if (h.isSome||acc.any lh)=true then .inr [("dimnames",some (.vec "list" acc (bq (rI h ds.length))))] else .inr [("dimnames",none)]);by_cases hs:(h.isSome||acc.any lh)=true
       ·rw [if_pos hs];refine fC S ?_;refine (m7 (fun t=>t=.null∨pz t) (.inl rfl) ps (kM ds) 0 [] acc he (fun us hu=>.inr ⟨us,rfl,fun u hm=>eU ((hv.2.1 us hu).2 u hm)⟩) (fun t ht=>absurd ht List.not_mem_nil)).elim fun q1 q2=>?_
        cases acc with
        |nil=>exact absurd (List.length_eq_zero_iff.mp ((List.length_map _).symm.trans ((Nat.zero_add _).symm.trans q2.symm))) (CB S hd)
        |cons p r=>
         refine ug q1 fun hs e u hu=>?_
         induction h with
         |none=>exact (bR e)
         |some Q6=>exact xN (fun u hm=>eU ((hv.2.2 Q6 rfl).2 u hm)) (.inr ⟨_,rfl⟩) u (Option.some.inj e▸hu)
       ·rw [if_neg hs];exact dg S
   |nul=>exact absurd rfl hn
   |_=>trivial
theorem CD (k:Str):xM lk (kN k v):=by
 induction v with
 |nul=>exact dg S
 |chr us=>
  show xM lk (if us.length=0 then .inr [("class",none)] else if us.any (qA "factor")=true∧k≠"integer" then .inl "adding class \"factor\" to an invalid object" else .inr [("class",some (.vec "character" us .none))])
  induction us with
  |nil=>exact dg S
  |cons w r=>
   rw [if_neg (show ¬(w::r).length=0 from Nat.succ_ne_zero _)];by_cases hc:(w::r).any (qA "factor")=true∧k≠"integer"
   ·rw [if_pos hc];trivial
   ·rw [if_neg hc];exact fC S (Fj fun u hu=>eU (hv.2 u hu))
 |_=>trivial
theorem zm:xM lk (jk v):=by
 have go:v≠.nul→Shape (app [("levels",some v.t)] lk):=fun hn=>fC S (lZ (.head _) (wt hv hn))
 induction v with
 |nul=>exact dg S
 |chr us=>
  show xM lk (match kK [] us with|some i=>.inl (yR i)|none=>.inr [("levels",some (.vec "character" us .none))])
  induction kK [] us with
  |some i=>trivial
  |none=>exact go (B6 rfl)
 |_=>exact go (B6 rfl)
theorem Fm:xM lk (mX v):=by
 have go:∀{t:T},Good t→Shape (app [("row.names",some t)] lk):=fun h=>fC S (lZ (.tail _ (.head _)) h)
 induction v with
 |nul=>exact dg S
 |chr us=>exact go (wt (v:=.chr us) hv (B6 rfl))
 |int l=>
  refine go (.inl ⟨_,_,.tail _ (.head _),rfl,fun u hu=>?_⟩)
  have hi:∀u∈l.map cL,xK u:=fun u hu=>by
   obtain ⟨o,_,rfl⟩:=List.mem_map.mp hu
   induction o with
   |none=>exact .inl rfl
   |some i=>exact .inr (.inl ⟨i,rfl⟩)
  rcases EV l with e|⟨r,e⟩
  ·exact hi u (e▸hu)
  ·obtain ⟨i,_,rfl⟩:=List.mem_map.mp (show u∈r.map T.int from e▸hu);exact .inr (.inl ⟨i,rfl⟩)
 |dbl l=>exact go (.inl ⟨_,_,.tail _ (.head _),rfl,fun u hu=>by obtain ⟨_,_,rfl⟩:=List.mem_map.mp hu;exact .inl rfl⟩)
 |_=>trivial
theorem Fo:xM lk (hM v):=by
 by_cases hn:v=.nul
 ·subst hn;exact dg S
 ·have he:hM v=.inr [("unit",some v.t)]:=by induction v<;>first|exact absurd rfl hn|rfl
  rw [he];exact fC S (lZ (.tail _ (.tail _ (.head _))) (wt hv hn))
theorem zo {k:Str}{n:Nat}{name:Str}(kP:name∈(["names","dim","dimnames","class","levels","row.names","unit"]:List Str)){u:List (Str×Option T)}(h:La lk k n name v=.inr u):Shape (app u lk):=by
 suffices q:xM lk (La lk k n name v) by rw [h] at q;exact q
 simp only [List.mem_cons,List.not_mem_nil,or_false] at kP;rcases kP with rfl|rfl|rfl|rfl|rfl|rfl|rfl
 ·exact CC S hv n
 ·exact IU S hv n
 ·exact Fl S hv
 ·exact CD S hv k
 ·exact zm S hv
 ·exact Fm S hv
 ·exact Fo S hv
end
theorem l4 {f:T→T→Option Bool}:∀{l:List T},(∀a∈l,f a a=some true)→jr f l l=some true
 |[],_=>rfl
 |a::r,h=>by
  show (match f a a with|some true=>jr f r r|some false=>_|none=>_)=_;rw [h a (by simp)];exact l4 fun b hb=>h b (by simp [hb])
theorem wu {f:T→T→Option Bool}{C6:List (Str×T)}:∀{es:List (Str×T)},(∀p∈es,∃b,C6.lookup p.1=some b∧f p.2 b=some true)→uv f es C6=some true
 |[],_=>rfl
 |p::r,h=>by
  obtain ⟨k,a⟩:=p;obtain ⟨b,h1,h2⟩:=h (k,a) (by simp);show (match C6.lookup k with|some b=>(match f a b with|some true=>uv f r C6|some false=>_|none=>_)|none=>_)=_;rw [h1];dsimp only;rw [h2];exact wu fun q hq=>h q (by simp [hq])
theorem eq_str (m:Nat)(x:Str):eqT (m+1) (.str x) (.str x)=some true:=by
 show some (decide (x=x))=_;rw [decide_eq_true rfl]
theorem eq_list {m:Nat}{l:List T}(h:∀a∈l,eqT m a a=some true):eqT (m+1) (.list l) (.list l)=some true:=by
 show (if l.length=l.length then jr (eqT m) l l else some false)=_;rw [if_pos rfl,l4 h]
theorem CE {m:Nat}{l:List T}(h:∀a∈l,eqT m a a=some true):eqT (m+1) (.tup l) (.tup l)=some true:=by
 show (if l.length=l.length then jr (eqT m) l l else none)=_;rw [if_pos rfl,l4 h]
theorem eq_int (m:Nat)(i:Int):eqT (m+1) (.int i) (.int i)=some true:=by
 show some (decide (i=i))=_;rw [decide_eq_true rfl]
theorem Fp {m:Nat}{t:T}(h:xK t):eqT (m+2) t t=some true:=by
 rcases h with rfl|⟨i,rfl⟩|⟨x,rfl⟩|⟨i,j,rfl⟩
 ·rfl
 ·exact eq_int _ i
 ·exact eq_str _ x
 ·refine CE fun a ha=>?_
  simp only [List.mem_cons,List.not_mem_nil,or_false] at ha;rcases ha with rfl|rfl<;>exact eq_int _ _
theorem CF {m:Nat}{t:T}(h:fQ t):eqT (m+1) t t=some true:=by
 rcases h with rfl|⟨x,rfl⟩
 ·rfl
 ·exact eq_str _ x
theorem rM {m:Nat}{k:Str}{ts:List T}{es:List (Str×T)}(h1:eqT (m+1) (.list ts) (.list ts)=some true)(h2:eqT (m+1) (.dict es) (.dict es)=some true):eqT (m+2) (.tup [.str k,.list ts,.dict es]) (.tup [.str k,.list ts,.dict es])=some true:=by
 refine CE fun a ha=>?_
 simp only [List.mem_cons,List.not_mem_nil,or_false] at ha;rcases ha with rfl|rfl|rfl
 ·exact eq_str _ k
 ·exact h1
 ·exact h2
theorem xO {m:Nat}{t:T}(h:t=.null∨pz t):eqT (m+4) (j0 t) (j0 t)=some true:=by
 rcases h with rfl|⟨us,rfl,hu⟩
 ·exact eq_str _ _
 ·exact rM (eq_list fun a ha=>CF (hu a ha)) rfl
theorem Ll {m:Nat}{t:T}(h:Good t):eqT (m+7) (vw t) (vw t)=some true:=by
 rcases h with ⟨k',ts,hk,rfl,hu⟩|⟨ps,h,rfl,hp,hh⟩
 ·have e:vw (.vec k' ts .none)=.tup [.str k',.list ts,.dict []]:=by
   simp only [List.mem_cons,List.not_mem_nil,or_false] at hk;rcases hk with rfl|rfl|rfl|rfl<;>rfl
  rw [e];exact rM (eq_list fun a ha=>Fp (hu a ha)) rfl
 ·have e:vw (.vec "list" ps (bq h))=.tup [.str "list",.list (ps.map j0),.dict (L9 (bq h))]:=rfl;rw [e];refine rM (eq_list fun a ha=>?_) ?_
  ·obtain ⟨p,Q7,rfl⟩:=List.mem_map.mp ha;exact xO (m:=m+1) (hp p Q7)
  ·induction h with
   |none=>rfl
   |some hs=>
    have hq:eqT (m+5) (j0 (.vec "character" hs .none)) (j0 (.vec "character" hs .none))=some true:=xO (m:=m+1) (.inr ⟨hs,rfl,hh hs rfl⟩);show (if 1=1 then uv (eqT (m+5)) [("names",j0 (.vec "character" hs .none))] [("names",j0 (.vec "character" hs .none))] else some false)=_;rw [if_pos rfl]
    exact wu fun p hp=>by
     rw [List.mem_singleton] at hp;subst hp;exact ⟨_,rfl,hq⟩
theorem qq:∀(es:List (Str×T)) (k:Str),(es.lookup k).isSome=true→(cD es k).length+1=es.length
 |[],k,h=>by exact d9 h
 |(k',t)::r,k,h=>by
  rw [rF];by_cases hk:k'=k
  ·rw [if_pos hk];rfl
  ·rw [if_neg hk,List.length_cons,List.length_cons];rw [List.lookup_cons] at h
   have:(k == k')=false:=by
    rw [beq_eq_false_iff_ne];exact fun e=>hk e.symm
   rw [this] at h;rw [qq r k h]
theorem wx:∀(l1 l2:List (Str×T)),(l1.map (·.1)).Nodup→(l2.map (·.1)).Nodup→(∀y,(l1.lookup y).isSome=true→(l2.lookup y).isSome=true)→l1.length≤l2.length
 |[],l2,_,_,_=>Nat.zero_le _
 |(k,t)::r,l2,h1,h2,h=>by
  rw [List.map_cons,List.nodup_cons] at h1;have hk:(l2.lookup k).isSome=true:=h k (by rw [List.lookup_cons];simp);have hl:=qq l2 k hk
  have:=wx r (cD l2 k) h1.2 (hJ l2 k h2) (fun y hy=>by
   rw [gc _ _ _ h2];by_cases e:y=k
   ·subst e;rw [iR h1.1] at hy;exact d9 hy
   ·rw [if_neg e];refine h y ?_;rw [List.lookup_cons];have:(y == k)=false:=by simpa using e
    rw [this];exact hy)
  rw [List.length_cons];lia
theorem Fq {es seen:List (Str×T)}(h1:(es.map (·.1)).Nodup)(h2:(seen.map (·.1)).Nodup)(h:∀y,seen.lookup y=(es.lookup y).map vw)(hg:∀y t,es.lookup y=some t→Good t):eqT wC (.dict (es.map fun p=>(p.1,vw p.2))) (.dict seen)=some true:=by
 have hl:(es.map fun p=>(p.1,vw p.2)).length=seen.length:=by
  rw [List.length_map];refine Nat.le_antisymm (wx es seen h1 h2 fun y hy=>?_) (wx seen es h2 h1 fun y hy=>?_)
  ·rw [h];induction hq:es.lookup y with
   |none=>rw [hq] at hy;exact d9 hy
   |some t=>rfl
  ·rw [h] at hy;induction hq:es.lookup y with
   |none=>rw [hq] at hy;exact d9 hy
   |some t=>rfl
 show (if (es.map fun p=>(p.1,vw p.2)).length=seen.length then uv (eqT 8) (es.map fun p=>(p.1,vw p.2)) seen else some false)=_;rw [if_pos hl];refine wu fun q hq=>?_
 obtain ⟨p,hp,rfl⟩:=List.mem_map.mp hq;have e:=dc h1 hp;exact ⟨vw p.2,by dsimp only;rw [h,e];rfl,Ll (m:=1) (hg _ _ e)⟩
noncomputable def qr:T→T
 |.vec _ us _=>.list us
 |_=>.none
noncomputable def pA (k:Str):List T:=if k="integer"∨k="double" then [.str "numeric"] else []
noncomputable def zF (t:T):Bool:=(rW t [.str "matrix",.str "b"]).getD false
noncomputable def cC:Option T→T
 |some (.vec _ us _)=>.list us
 |_=>.none
noncomputable def Lm:Option T→T
 |some (.vec _ (p::_) _)=>qr p
 |_=>.none
noncomputable def partsOf:Option T→T
 |some (.vec _ ps _)=>.list (ps.map qr)
 |_=>.none
noncomputable def d8 (lk:Lk):T:=if iU lk=true then Lm (lk "dimnames") else cC (lk "names")
noncomputable def jW (lk:Lk):List T:=match lk "class" with
 |some (.vec _ us _)=>us
 |_=>[]
noncomputable def pB (lk:Lk):List T:=match eS lk with
 |none=>[]
 |some ds=>if ds.length=2 then [.str "matrix",.str "array"] else [.str "array"]
noncomputable def hZ (k:Str):Str:=if k="double" then "numeric" else k
noncomputable def kX (k:Str)(lk:Lk):List T:=match jW lk with
 |u::us=>u::us
 |[]=>match pB lk with
  |u::us=>u::us
  |[]=>[.str (hZ k)]
theorem i7 {lk:Lk}(S:Shape lk):lk "names"=none∨∃us,lk "names"=some (.vec "character" us .none)∧∀u∈us,fQ u:=by
 induction h:lk "names" with
 |none=>exact .inl rfl
 |some t=>
  obtain ⟨us,rfl,hu⟩:=(S _ t h).names rfl;exact .inr ⟨us,rfl,hu⟩
theorem eE {lk:Lk}(S:Shape lk):lk "dimnames"=none∨∃p ps h,lk "dimnames"=some (.vec "list" (p::ps) (bq h))∧∀q∈p::ps,q=.null∨pz q:=by
 induction h:lk "dimnames" with
 |none=>exact .inl rfl
 |some t=>
  obtain ⟨p,ps,hh,rfl,hu⟩:=(S _ t h).Oh rfl;exact .inr ⟨p,ps,hh,rfl,hu⟩
theorem jn {lk:Lk}(S:Shape lk):lk "class"=none∨∃u us,lk "class"=some (.vec "character" (u::us) .none)∧∀w∈u::us,fQ w:=by
 induction h:lk "class" with
 |none=>exact .inl rfl
 |some t=>
  obtain ⟨u,us,rfl,hu⟩:=(S _ t h).cls rfl;exact .inr ⟨u,us,rfl,hu⟩
section
variable (d:Nat)(row:Option (List Int)){k:Str}{n:Nat}{ah:List T}{at':oH}(ep:Nat)(O:Ok k n ah at')(S:Shape (cw at'))
include O S
theorem uh:∃kd,(kd=Kd.val∨kd=.own)∧ae (d+2) "dimnames_of" [.self] (SG row k ah at' ep)=.ok (partsOf (cw at' "dimnames"),kd) (SG row k ah at' ep):=by
 rcases eE S with h|⟨p,ps,hh,h,hq⟩
 ·rw [h];exact ⟨.val,.inl rfl,run (.c 0 (oN d row k ah at' ep h) .nil) (by kernel_rfl)⟩
 ·rw [h]
  have q:=comp_map (G:=ae (d+1)) (L:=(Lf "dimnames_of" [some .self,some (.vec "list" (p::ps) (bq hh))] []).ev) (e:=gI "dimnames_of" [] 2 []) (l:=p::ps) (k:=.val) (s:=SG row k ah at' ep) (by kernel_rfl) uy qr (fun _ _=>by kernel_rfl) (fun t ht=>by
   rcases hq t ht with rfl|⟨us,rfl,_⟩
   ·exact .v (eC .nil (by kernel_rfl))
   ·exact .o (eC .nil (by kernel_rfl)))
  exact ⟨.own,.inr rfl,run (.c 0 (oM d row k ah at' ep h) <| .v "[]" 0 q .nil) (by kernel_rfl)⟩
theorem xP:ae (d+2) "class_attr" [.self] (SG row k ah at' ep)=.ok (.list (jW (cw at')),.own) (SG row k ah at' ep):=by
 unfold jW;rcases jn S with h|⟨u,us,h,hq⟩
 ·rw [h];exact run (.c 0 (oN d row k ah at' ep h) .nil) (by kernel_rfl)
 ·rw [h];exact run (.c 0 (oM d row k ah at' ep h) .nil) (by kernel_rfl)
theorem zp:∃kd,(kd=Kd.val∨kd=.own)∧ae (d+3) "names_of" [.self] (SG row k ah at' ep)=.ok (d8 (cw at'),kd) (SG row k ah at' ep):=by
 have hd:=hO (d:=d) (row:=row) (ep:=ep) O;obtain ⟨kd,Mb,Mc⟩:=uh d row ep O S;have hl:=dF O.nul.2.1;have he:=dF O.nul.2.2;have hg:=i7 S;unfold d8 iU
 induction C9:eS (cw at') with
 |none=>
  rw [C9] at hd;rw [if_neg nofun];rcases hg with h|⟨us,h,_⟩
  ·rw [h];exact ⟨.val,.inl rfl,run (.t 0 hl <| .t 0 he <| .c 0 hd <| .c 0 (oN (d+1) row k ah at' ep h) .nil) (by kernel_rfl)⟩
  ·exact h▸(⟨.own,.inr rfl,run (.t 0 hl <| .t 0 he <| .c 0 hd <| .c 0 (oM (d+1) row k ah at' ep h) .nil) (by kernel_rfl)⟩)
 |some ds=>
  rw [C9] at hd
  skip
  by_cases h1:ds.length=1
  ·rw [if_pos (dT h1)];rcases eE S with h|⟨p,ps,hh,h,_⟩
   ·rw [h] at Mc ⊢;rcases Mb with rfl|rfl<;>exact ⟨.val,.inl rfl,run (.t 0 hl <| .t 0 he <| .c 0 hd <| .t 1 (ff (b:=1) h1) <| .c 0 Mc .nil) (by kernel_rfl)⟩
   ·rw [h] at Mc ⊢;rcases Mb with rfl|rfl<;>exact ⟨.val,.inl rfl,run (.t 0 hl <| .t 0 he <| .c 0 hd <| .t 1 (ff (b:=1) h1) <| .c 0 Mc .nil) (by kernel_rfl)⟩
  ·rw [if_neg (dN h1)];rcases hg with h|⟨us,h,_⟩
   ·rw [h];exact ⟨.val,.inl rfl,run (.t 0 hl <| .t 0 he <| .c 0 hd <| .t 1 (bN (b:=1) h1) <| .c 0 (oN (d+1) row k ah at' ep h) .nil) (by kernel_rfl)⟩
   ·rw [h];exact ⟨.own,.inr rfl,run (.t 0 hl <| .t 0 he <| .c 0 hd <| .t 1 (bN (b:=1) h1) <| .c 0 (oM (d+1) row k ah at' ep h) .nil) (by kernel_rfl)⟩
omit S in
theorem qs:ae (d+3) "shape_class" [.self] (SG row k ah at' ep)=.ok (.list (pB (cw at')),.own) (SG row k ah at' ep):=by
 have hd:=hO (d:=d) (row:=row) (ep:=ep) O;unfold pB
 induction C9:eS (cw at') with
 |none=>rw [C9] at hd;exact run (.c 0 hd .nil) (by kernel_rfl)
 |some ds=>
  rw [C9] at hd;dsimp only;by_cases h2:ds.length=2
  ·rw [if_pos h2];exact run (.c 0 hd <| .t 1 (ff (b:=2) h2) .nil) (by kernel_rfl)
  ·rw [if_neg h2];exact run (.c 0 hd <| .t 1 (bN (b:=2) h2) .nil) (by kernel_rfl)
omit S in
theorem plain_all:ae (d+1) "plain_class" [.self] (SG row k ah at' ep)=.ok (.str k,.val) (SG row k ah at' ep):=by
 have:=O.hk;simp only [List.mem_cons,List.not_mem_nil,or_false] at this;rcases this with rfl|rfl|rfl|rfl|rfl<;>exact run .nil (by kernel_rfl)
omit O S in
theorem rN (lk:Lk):(pB lk).length≤2:=by
 unfold pB;split
 ·exact Nat.zero_le _
 ·split<;>decide
omit S in
theorem CG:ae (d+4) "implicit_class" [.self] (SG row k ah at' ep)=.ok (.list (pB (cw at')++[.str k]++pA k),.own) (SG row k ah at' ep):=by
 have hp:=plain_all (d+2) row ep O;have hs:=qs d row ep O;have ha:∀s,ay (dy .Add (.list (pB (cw at'))) (.list [.str k])) s=.ok (.list (pB (cw at')++[.str k]),.own) s:=i0 (Nat.le_trans (Nat.succ_le_succ (rN _)) (by decide));have hl:(pB (cw at')++[T.str k]).length < 1000:=by rw [List.length_append];exact Nat.lt_of_le_of_lt (Nat.succ_le_succ (rN _)) (by decide)
 unfold pA;by_cases h1:k="integer"
 ·rw [if_pos (.inl h1)];exact run (.c 0 hp <| .c 0 hs <| .p "+" 0 ha <| .t 0 (dT h1) <| .p "m" 0 (bU _ (.str "numeric") hl) .nil) (by kernel_rfl)
 ·by_cases h2:k="double"
  ·rw [if_pos (.inr h2)];exact run (.c 0 hp <| .c 0 hs <| .p "+" 0 ha <| .t 0 (dF h1) <| .t 0 (dT h2) <| .p "m" 0 (bU _ (.str "numeric") hl) .nil) (by kernel_rfl)
  ·rw [if_neg fun q=>q.elim h1 h2,List.append_nil];exact run (.c 0 hp <| .c 0 hs <| .p "+" 0 ha <| .t 0 (dF h1) <| .t 0 (dF h2) .nil) (by kernel_rfl)
theorem qt:∃kd,(kd=Kd.val∨kd=.own)∧ae (d+4) "class_of" [.self] (SG row k ah at' ep)=.ok (.list (kX k (cw at')),kd) (SG row k ah at' ep):=by
 have hc:=xP (d+1) row ep O S;have hs:=qs d row ep O;have hp:=plain_all (d+2) row ep O;unfold kX
 induction h1:jW (cw at') with
 |cons u us=>
  rw [h1] at hc;exact ⟨.val,.inl rfl,run (.c 0 hc <| .t 0 (iT (a:=0) (b:=(u::us).length) (Nat.succ_pos _)) .nil) (by kernel_rfl)⟩
 |nil=>
  rw [h1] at hc
  induction h2:pB (cw at') with
  |cons u us=>
   rw [h2] at hs;exact ⟨.val,.inl rfl,run (.c 0 hc <| .c 0 hs <| .t 0 (iT (a:=0) (b:=(u::us).length) (Nat.succ_pos _)) .nil) (by kernel_rfl)⟩
  |nil=>
   rw [h2] at hs;show ∃kd,_∧_=Res.ok (T.list [.str (hZ k)],kd) _;unfold hZ;by_cases hk:k="double"
   ·rw [if_pos hk];exact ⟨.own,.inr rfl,run (.c 0 hc <| .c 0 hs <| .t 1 (dT hk) .nil) (by kernel_rfl)⟩
   ·rw [if_neg hk];exact ⟨.own,.inr rfl,run (.c 0 hc <| .c 0 hs <| .t 1 (dF hk) <| .c 0 hp .nil) (by kernel_rfl)⟩
end
theorem qu (lk:Lk):pB lk=[]∨pB lk=[.str "matrix",.str "array"]∨pB lk=[.str "array"]:=by
 unfold pB;split
 ·exact .inl rfl
 ·split
  ·exact .inr (.inl rfl)
  ·exact .inr (.inr rfl)
theorem qv {lk:Lk}(S:Shape lk)(k:Str):∀u∈kX k lk,fQ u:=by
 unfold kX jW;rcases jn S with h|⟨u,us,h,hq⟩
 ·rw [h];rcases qu lk with e|e|e<;>rw [e]<;>intro w hw
  ·exact .inr ⟨_,List.mem_singleton.mp hw⟩
  ·refine (List.mem_cons.mp hw).elim (fun rfl=>?_) fun hw=>?_
   ·exact .inr ⟨_,rfl⟩
   ·exact .inr ⟨_,List.mem_singleton.mp hw⟩
  ·exact .inr ⟨_,List.mem_singleton.mp hw⟩
 ·exact h▸hq
theorem GS {t:T}(ht:fQ t)(s:Sg):(fi .In (t,.val) (.list [.str "matrix",.str "b"])>>=val) s=.ok (.bool (zF t),.val) s:=by
 rcases ht with rfl|⟨x,rfl⟩<;>rfl
theorem ui (d:Nat)(s:Sg):∀(us:List T) (o:Option T),(∀t∈us,fQ t)→∃o',eh (ae d) "one" (jD "inherits" [0]) us (Lf "inherits" [some .self,some (.list [.str "matrix",.str "b"]),o] []) s=.ok (if us.any zF=true then .ret (.bool true) .val else .next,(Lf "inherits" [some .self,some (.list [.str "matrix",.str "b"]),o'] []).ev) s
 |[],o,_=>⟨o,rfl⟩
 |t::r,o,h=>by
  rw [List.any_cons]
  induction hb:zF t with
  |true=>exact ⟨some t,fZ (aV (.p "c" 0 (GS (h t (.head _))) <| .t 0 hb .nil) (by kernel_rfl))⟩
  |false=>
   obtain ⟨o',e⟩:=ui d s r (some t) fun t ht=>h t (.tail _ ht)
   exact ⟨o',aN (aV (.p "c" 0 (GS (h t (.head _))) <| .t 0 hb .nil) (by kernel_rfl)) e⟩
theorem Ft (d:Nat)(row:Option (List Int)){k:Str}{n:Nat}{ah:List T}{at':oH}(ep:Nat)(O:Ok k n ah at')(S:Shape (cw at')):ae (d+5) "inherits" [.self,.list [.str "matrix",.str "b"]] (SG row k ah at' ep)=.ok (.bool ((kX k (cw at')).any zF),.val) (SG row k ah at' ep):=by
 obtain ⟨kd,hk,e⟩:=qt d row ep O S;obtain ⟨o,q⟩:=ui (d+4) (SG row k ah at' ep) (kX k (cw at')) none (qv S k)
 induction hb:(kX k (cw at')).any zF with
 |true=>rw [hb] at q;rcases hk with rfl|rfl<;>exact run (.c 0 e <| .o "for" 0 q .nil) (by kernel_rfl)
 |false=>rw [hb] at q;rcases hk with rfl|rfl<;>exact run (.c 0 e <| .o "for" 0 q .nil) (by kernel_rfl)
noncomputable def bB (r:List Int):Prop:=∀x∈r,0≤x∧x < 1024
noncomputable abbrev gw (r:List Int)(s:Option aM):Sg:=⟨some r,s⟩
theorem oV {α:Type}{f:α→T}{P:α→Prop}:∀{us:List T},(∀u∈us,∃o,u=f o∧P o)→∃l:List α,us=l.map f∧∀o∈l,P o
 |[],_=>⟨[],rfl,fun o ho=>absurd ho List.not_mem_nil⟩
 |u::r,h=>by
  obtain ⟨o,rfl,ho⟩:=h u (.head _);obtain ⟨l,rfl,hl⟩:=oV (us:=r) fun u hu=>h u (.tail _ hu)
  exact ⟨o::l,rfl,List.forall_mem_cons.mpr ⟨ho,hl⟩⟩
noncomputable def Ln (u:T):Prop:=∃o:Option Int,u=cL o∧∀x,o=some x→x.natAbs≤20
noncomputable def Oi (u:T):Prop:=∃o:Option Int,u=cL o∧∀x,o=some x→x=0∨x=1
noncomputable def l5 (u:T):Prop:=∃o:Nat,u=.int (o:Int)∧o≤8
theorem qw {f:T→M Bool}{g:T→M (T×Kd)}{P:T→Prop}{s:Option aM}:∀(l:List T) (r:List Int),(∀t∈l,∀r,f t (gw r s)=.ok true (gw r s))→(∀t∈l,∀r,bB r→∃u r',bB r'∧P u∧yP (g t) (gw r s) u (gw r' s))→bB r→
  ∃us r',bB r'∧us.length=l.length∧(∀u∈us,P u)∧tests f g l (gw r s)=.ok us (gw r' s)
 |[],r,_,_,hr=>⟨[],r,hr,rfl,fun u hu=>absurd hu List.not_mem_nil,rfl⟩
 |t::l,r,h1,h2,hr=>by
  obtain ⟨u,r1,gf,hp,e1⟩:=h2 t (.head _) r hr;obtain ⟨us,r2,jU,hl,Jk,e2⟩:=qw l r1 (fun t ht=>h1 t (.tail _ ht)) (fun t ht=>h2 t (.tail _ ht)) gf;exact ⟨u::us,r2,jU,congrArg Nat.succ hl,List.forall_mem_cons.mpr ⟨hp,Jk⟩,lP (h1 t (.head _) r) e1 e2⟩
theorem kY {G:Calls}{L:Ev}{e:Expr}{l:List T}{P:T→Prop}{s:Option aM}{r:List Int}(h:cK G L l .val e=jy l .val (oB G L e) (lQ G L e))(hr:bB r)(h1:∀t r,oB G L e t (gw r s)=.ok true (gw r s))(h2:∀t∈l,∀r,bB r→∃u r',bB r'∧P u∧lQ G L e t (gw r s)=.ok (u,.val) (gw r' s)):
  ∃us r',bB r'∧us.length=l.length∧(∀u∈us,P u)∧cK G L l .val e (gw r s)=.ok (.list us,.own) (gw r' s):=by
 obtain ⟨us,r',q1,q2,q3,q4⟩:=qw (P:=P) (f:=quiet .val (oB G L e)) (g:=quiet .val (lQ G L e)) (s:=s) l r (fun t _ r=>eP uy (h1 t r)) (fun t ht r hr=>by
  obtain ⟨u,r',a,b,c⟩:=h2 t ht r hr;exact ⟨u,r',a,b,.v (eP uy c)⟩) hr
 exact ⟨us,r',q1,q2,q3,oC h q4⟩
section
variable (d:Nat)(s:Option aM)
theorem Fu (r:List Int)(hr:bB r):∃x r',bB r'∧0≤x∧ae (d+1) "_law_next" [.row] (gw r s)=.ok (.int x,.val) (gw r' s):=by
 rcases List.eq_nil_or_concat r with rfl|⟨r',x,rfl⟩
 ·exact ⟨0,[],hr,Int.le_refl _,run .nil (by kernel_rfl)⟩
 ·rw [List.concat_eq_append] at hr ⊢;have h1:(!(r'++[x]).isEmpty)=true:=by induction r'<;>rfl
  have h2:iz .row "pop" [] (gw (r'++[x]) s)=.ok (.int x,.val) (gw r' s):=by
   show (match (r'++[x]).getLast? with
    |some y=>(Res.ok (T.int y,Kd.val) {row:=some (r'++[x]).dropLast,self:=s}:Res (T×Kd))
    |none=>.stuck)=_
   rw [List.getLast?_concat,List.dropLast_concat]
  exact ⟨x,r',fun y hy=>hr y (List.mem_append_left _ hy),(hr x (List.mem_append_right _ (.head _))).1,run (.t 0 h1 <| .v "." 0 h2 .nil) (by kernel_rfl)⟩
theorem IW {x y:Int}(hx:0≤x)(hy:0 < y):∃j:Nat,(j:Int) < y∧∀s,ay (dy .Mod (.int x) (.int y)) s=.ok (.int j,.val) s:=by
 have h1:0≤Int.fmod x y:=Int.fmod_nonneg_of_pos x hy;refine ⟨(Int.fmod x y).toNat,by rw [Int.toNat_of_nonneg h1];exact Int.fmod_lt_of_pos x hy,fun s=>?_⟩;show ay (if y=0 then none else some (T.int (Int.fmod x y),Kd.val)) s=_;rw [if_neg (Int.ne_of_gt hy),Int.toNat_of_nonneg h1];rfl
theorem draw (y:Int)(hy:0 < y)(r:List Int)(hr:bB r):∃(x:Int) (r':List Int) (j:Nat),bB r'∧(j:Int) < y∧ae (d+1) "_law_next" [.row] (gw r s)=.ok (.int x,.val) (gw r' s)∧∀s,ay (dy .Mod (.int x) (.int y)) s=.ok (.int j,.val) s:=by
 obtain ⟨x,r',Q8,hx,e⟩:=Fu d s r hr;obtain ⟨j,hj,m⟩:=IW hx hy;exact ⟨x,r',j,Q8,hj,e,m⟩
theorem kZ {us:List T}{j n:Nat}(h:(j:Int) < (n:Nat))(hn:us.length=n):∃u,u∈us∧∀s,ie (.list us) (.int (j:Int)) s=.ok (u,.val) s:=
 have h:j < us.length:=hn▸Int.ofNat_lt.mp h
 ⟨us[j],List.getElem_mem h,bl (List.getElem?_eq_getElem h)⟩
theorem uj (r:List Int)(hr:bB r)(m:Nat)(hm:m < 900):∃us r',bB r'∧us.length=m∧(∀u∈us,fR u)∧ae (d+2) "_law_texts" [.row,.int m] (gw r s)=.ok (.list us,.own) (gw r' s):=by
 obtain ⟨us,r',h1,h2,h3,e⟩:=kY (G:=ae (d+1)) (L:=(Lf "_law_texts" [some .row,some (.int m)] []).ev) (e:=gI "_law_texts" [] 0 []) (l:=(List.range' 0 m).map fun i:Nat=>T.int (i:Int)) (P:=fR) (s:=s) (by kernel_rfl) hr (fun _ _=>by kernel_rfl) fun t _ r hr=>by
  obtain ⟨x,r1,j,gf,hj,e1,e2⟩:=draw d s 7 (by decide) r hr;obtain ⟨u,hu,e3⟩:=kZ (us:=[.str "a",.str "b",.str "",.none,.str "matrix",.str "factor",.str "integer"]) hj rfl;refine ⟨u,r1,gf,?_,eC (.c 0 e1 <| .p "+" 0 e2 <| .p "i" 0 e3 .nil) (by kernel_rfl)⟩;simp only [List.mem_cons,List.not_mem_nil,or_false] at hu;rcases hu with rfl|rfl|rfl|rfl|rfl|rfl|rfl
  all_goals first|exact .inl rfl|exact .inr ⟨_,rfl,by decide +kernel⟩
 exact ⟨us,r',h1,h2.trans (by rw [List.length_map,List.length_range']),h3,run (.l 0 (aQ (Nat.lt_trans hm (by decide))) <| .v "[]" 0 e .nil) (by kernel_rfl)⟩
end
theorem CH (n:Nat)(hn:n≤8)(u:T)(h:u∈([.list [.int n],.list [.int 1,.int n],.list [.int n,.int 1],.list [.int 2,.int (Int.fdiv n 2)],.list [.int 3,.int (Int.fdiv n 3)],.list [.int 1,.int 1,.int n],.list [.int 0,.int n]]:List T)):∃us,u=.list us∧us≠[]∧us.length≤3∧∀u∈us,l5 u:=by
 have hN:l5 (.int (n:Int)):=⟨n,rfl,hn⟩;have h0:l5 (.int 0):=⟨0,rfl,by decide⟩;have h1:l5 (.int 1):=⟨1,rfl,by decide⟩;have h2:l5 (.int 2):=⟨2,rfl,by decide⟩;have h3:l5 (.int 3):=⟨3,rfl,by decide⟩;have hd2:l5 (.int (Int.fdiv n 2)):=⟨n / 2,by rw [Int.fdiv_eq_ediv_of_nonneg _ (by decide)];rfl,Nat.le_trans (Nat.div_le_self _ _) hn⟩;have Q9:l5 (.int (Int.fdiv n 3)):=⟨n / 3,by rw [Int.fdiv_eq_ediv_of_nonneg _ (by decide)];rfl,Nat.le_trans (Nat.div_le_self _ _) hn⟩;have one:∀{a:T},l5 a→∀u∈[a],l5 u:=fun ha u hu=>List.mem_singleton.mp hu▸ha
 have two:∀{a b:T},l5 a→l5 b→∀u∈[a,b],l5 u:=fun ha hb=>List.forall_mem_cons.mpr ⟨ha,one hb⟩
 simp only [List.mem_cons,List.not_mem_nil,or_false] at h;rcases h with rfl|rfl|rfl|rfl|rfl|rfl|rfl
 ·exact ⟨_,rfl,List.cons_ne_nil _ _,(by decide:1≤3),one hN⟩
 ·exact ⟨_,rfl,List.cons_ne_nil _ _,(by decide:2≤3),two h1 hN⟩
 ·exact ⟨_,rfl,List.cons_ne_nil _ _,(by decide:2≤3),two hN h1⟩
 ·exact ⟨_,rfl,List.cons_ne_nil _ _,(by decide:2≤3),two h2 hd2⟩
 ·exact ⟨_,rfl,List.cons_ne_nil _ _,(by decide:2≤3),two h3 Q9⟩
 ·exact ⟨_,rfl,List.cons_ne_nil _ _,(by decide:3≤3),List.forall_mem_cons.mpr ⟨h1,two h1 hN⟩⟩
 ·exact ⟨_,rfl,List.cons_ne_nil _ _,(by decide:2≤3),two h0 hN⟩
noncomputable def Oj:T→T
 |.int i=>.tup [.int (2 * i+1),.int 2]
 |t=>t
noncomputable def uk (s:Option aM)(R:Res (T×Kd)):Prop:=∃(v:Vl) (r':List Int) (kd:Kd),(kd=.val∨kd=.own∨kd=.bg)∧R=.ok (v.t,kd) (gw r' s)∧bB r'∧v.ok
section
variable (d:Nat)(s:Option aM)(n:Nat)(hn:n≤8)(r r1:List Int)(gf:bB r1){x:Int}(e:ae (d+2) "_law_next" [.row] (gw r s)=.ok (.int x,.val) (gw r1 s))
include hn gf e
theorem Fv (m:∀s,ay (dy .Mod (.int x) (.int 7)) s=.ok (.int (0:Nat),.val) s):uk s (ae (d+3) "_law_value" [.row,.int n] (gw r s)):=by
 obtain ⟨x2,r2,j,jU,hj,e2,m2⟩:=draw (d+1) s ((n:Int)+2) (by lia) r1 gf;obtain ⟨us,r3,uA,hl,hp,e3⟩:=uj d s r2 jU j (by lia);exact ⟨.chr us,r3,.bg,.inr (.inr rfl),run (.c 0 e <| .p "+" 0 m <| .c 0 e2 <| .p "+" 1 m2 <| .c 0 e3 .nil) (by kernel_rfl),uA,by lia,hp⟩
theorem Fw (m:∀s,ay (dy .Mod (.int x) (.int 7)) s=.ok (.int (1:Nat),.val) s):uk s (ae (d+3) "_law_value" [.row,.int n] (gw r s)):=
 ⟨.nul,r1,.val,.inl rfl,run (.c 0 e <| .p "+" 0 m .nil) (by kernel_rfl),gf,trivial⟩
theorem Fx (m:∀s,ay (dy .Mod (.int x) (.int 7)) s=.ok (.int (2:Nat),.val) s):uk s (ae (d+3) "_law_value" [.row,.int n] (gw r s)):=by
 obtain ⟨x2,r2,j,jU,hj,e2,m2⟩:=draw (d+1) s ((n:Int)+2) (by lia) r1 gf
 obtain ⟨us,r3,uA,hl,hp,e3⟩:=kY (G:=ae (d+2)) (L:=(Lf "_law_value" [some .row,some (.int n),some (.int (2:Nat))] []).ev) (e:=gI "_law_value" [3] 0 [2]) (l:=(List.range' 0 j).map fun i:Nat=>T.int (i:Int)) (P:=Ln) (s:=s) (by kernel_rfl) jU (fun _ _=>by kernel_rfl) fun t _ r hr=>by
  obtain ⟨x,r1,j,gf,hj,e1,e2⟩:=draw (d+1) s 9 (by decide) r hr;exact ⟨.int ((j:Int) - 1),r1,gf,⟨some ((j:Int) - 1),rfl,fun y hy=>by induction Option.some.inj hy;lia⟩,eC (.c 0 e1 <| .p "+" 0 e2 .nil) (by kernel_rfl)⟩
 obtain ⟨l,rfl,Lo⟩:=oV hp;exact ⟨.int l,r3,.bg,.inr (.inr rfl),run (.c 0 e <| .p "+" 0 m <| .c 0 e2 <| .p "+" 1 m2 <| .l 0 (aQ (n:=j) (by lia)) <| .v "[]" 0 e3 .nil) (by kernel_rfl),uA,by rw [List.length_map,List.length_map,List.length_range'] at hl;lia,fun x hx=>Lo _ hx x rfl⟩
theorem Fy (m:∀s,ay (dy .Mod (.int x) (.int 7)) s=.ok (.int (6:Nat),.val) s):uk s (ae (d+3) "_law_value" [.row,.int n] (gw r s)):=by
 obtain ⟨x2,r2,j,jU,hj,e2,m2⟩:=draw (d+1) s ((n:Int)+2) (by lia) r1 gf
 obtain ⟨us,r3,uA,hl,hp,e3⟩:=kY (G:=ae (d+2)) (L:=(Lf "_law_value" [some .row,some (.int n),some (.int (6:Nat))] []).ev) (e:=gI "_law_value" [] 7 [2]) (l:=(List.range' 0 j).map fun i:Nat=>T.int (i:Int)) (P:=Oi) (s:=s) (by kernel_rfl) jU (fun _ _=>by kernel_rfl) fun t _ r hr=>by
  obtain ⟨x,r1,j,gf,hj,e1,e2⟩:=draw (d+1) s 3 (by decide) r hr;obtain ⟨u,hu,e3⟩:=kZ (us:=[.int 1,.int 0,.none]) hj rfl;refine ⟨u,r1,gf,?_,eC (.c 0 e1 <| .p "+" 0 e2 <| .p "i" 0 e3 .nil) (by kernel_rfl)⟩;simp only [List.mem_cons,List.not_mem_nil,or_false] at hu;rcases hu with rfl|rfl|rfl
  ·exact ⟨some 1,rfl,fun y hy=>.inr (Option.some.inj hy).symm⟩
  ·exact ⟨some 0,rfl,fun y hy=>.inl (Option.some.inj hy).symm⟩
  ·exact ⟨none,rfl,fun y hy=>(bR hy)⟩
 obtain ⟨l,rfl,Lo⟩:=oV hp;exact ⟨.qe l,r3,.bg,.inr (.inr rfl),run (.c 0 e <| .p "+" 0 m <| .c 0 e2 <| .p "+" 1 m2 <| .l 0 (aQ (n:=j) (by lia)) <| .v "[]" 0 e3 .nil) (by kernel_rfl),uA,by rw [List.length_map,List.length_map,List.length_range'] at hl;lia,fun x hx=>Lo _ hx x rfl⟩
theorem Fz (m:∀s,ay (dy .Mod (.int x) (.int 7)) s=.ok (.int (5:Nat),.val) s):uk s (ae (d+3) "_law_value" [.row,.int n] (gw r s)):=by
 obtain ⟨x2,r2,j,jU,hj,e2,m2⟩:=draw (d+1) s 6 (by decide) r1 gf
 exact ⟨.int [none,some (-(j:Int))],r2,.bg,.inr (.inr rfl),run (.c 0 e <| .p "+" 0 m <| .c 0 e2 <| .p "+" 0 m2 .nil) (by kernel_rfl),jU,(by decide:2≤10),fun y hy=>by
  refine (List.mem_cons.mp hy).elim (fun h=>?_) fun h=>?_
  ·exact (Jx h)
  ·cases Option.some.inj (List.mem_singleton.mp h);lia⟩
theorem FA (m:∀s,ay (dy .Mod (.int x) (.int 7)) s=.ok (.int (3:Nat),.val) s):uk s (ae (d+3) "_law_value" [.row,.int n] (gw r s)):=by
 obtain ⟨x2,r2,j,jU,hj,e2,m2⟩:=draw (d+1) s 7 (by decide) r1 gf;obtain ⟨x3,r3,j3,uA,Ra,e3,m3⟩:=draw (d+1) s 2 (by decide) r2 jU;obtain ⟨u,hu,e4⟩:=kZ (us:=[.list [.int n],.list [.int 1,.int n],.list [.int n,.int 1],.list [.int 2,.int (Int.fdiv n 2)],.list [.int 3,.int (Int.fdiv n 3)],.list [.int 1,.int 1,.int n],.list [.int 0,.int n]]) hj rfl;obtain ⟨us,rfl,u1,u2,u3⟩:=CH n hn u hu;by_cases hc:(j3:Int)=1
 ·have q:=comp_map (G:=ae (d+2)) (L:=(Lf "_law_value" [some .row,some (.int n),some (.int (3:Nat)),some (.list us)] []).ev) (e:=gI "_law_value" [4,1] 0 [2]) (l:=us) (k:=.val) (s:=gw r3 s) (by kernel_rfl) uy Oj (fun _ _=>by kernel_rfl) fun t ht=>.v (by
   obtain ⟨o,rfl,ho⟩:=u3 t ht;exact eC .nil (by kernel_rfl))
  obtain ⟨l,rfl,hl⟩:=oV (f:=fun o:Nat=>T.int (o:Int)) (P:=fun o:Nat=>o≤8) u3;rw [List.map_map] at q;exact ⟨.dbl l,r3,.bg,.inr (.inr rfl),run (.c 0 e <| .p "+" 0 m <| .c 0 e2 <| .p "+" 0 m2 <| .p "i" 0 e4 <| .c 0 e3 <| .p "+" 0 m3 <| .t 0 (dT hc) <| .v "[]" 0 q .nil) (by kernel_rfl),uA,fun h=>u1 (h▸rfl),List.length_map (as:=l) _▸u2,hl⟩
 ·obtain ⟨vs,r4,Md,hl,hp,e5⟩:=kY (G:=ae (d+2)) (L:=(Lf "_law_value" [some .row,some (.int n),some (.int (3:Nat)),some (.list us)] []).ev) (e:=gI "_law_value" [4] 2 [2]) (l:=us) (P:=Ln) (s:=s) (by kernel_rfl) uA (fun _ _=>by kernel_rfl) fun t ht r hr=>by
   obtain ⟨x,r1,j,gf,hj,e1,e2⟩:=draw (d+1) s 9 (by decide) r hr;obtain ⟨o,rfl,ho⟩:=u3 t ht;by_cases hc:(j:Int)=8
   ·exact ⟨.none,r1,gf,⟨none,rfl,fun y hy=>(bR hy)⟩,eC (.c 0 e1 <| .p "+" 0 e2 <| .t 0 (dT hc) .nil) (by kernel_rfl)⟩
   ·exact ⟨.int (o:Int),r1,gf,⟨some (o:Int),rfl,fun y hy=>by induction Option.some.inj hy;(first|assumption|exact Nat.le_of_lt ‹_›|exact Nat.lt_of_lt_of_le ‹_ < _› ‹_≤_›|exact Nat.lt_of_le_of_lt ‹_≤_› ‹_ < _›|exact Nat.le_trans ‹_≤_› ‹_≤_›|exact Nat.lt_of_le_of_lt ‹_≤_› (by decide)|exact Nat.lt_trans ‹_ < _› (by decide)|exact Nat.le_trans ‹_≤_› (by decide))⟩,eC (.c 0 e1 <| .p "+" 0 e2 <| .t 0 (dF hc) .nil) (by kernel_rfl)⟩
  obtain ⟨l,rfl,Lo⟩:=oV hp;exact ⟨.int l,r4,.bg,.inr (.inr rfl),run (.c 0 e <| .p "+" 0 m <| .c 0 e2 <| .p "+" 0 m2 <| .p "i" 0 e4 <| .c 0 e3 <| .p "+" 0 m3 <| .t 0 (dF hc) <| .v "[]" 0 e5 .nil) (by kernel_rfl),Md,by rw [List.length_map] at hl;exact hl▸Nat.le_trans u2 (by decide),fun x hx=>Lo _ hx x rfl⟩
end
noncomputable def CI (p:Option (List T)):Prop:=∀us,p=some us→us.length≤8∧∀u∈us,fR u
theorem oW {α:Type}{P:α→Prop}{l:List α}{x:α}(h:∀p∈l,P p)(hx:P x):∀p∈l++[x],P p:=fun p hp=>(List.mem_append.mp hp).elim (h p) fun q=>List.mem_singleton.mp q▸hx
section
variable (d:Nat)(s:Option aM)(n:Nat)(hn:n≤8)
include hn
noncomputable abbrev Me (n:Nat)(acc:List (Option (List T)))(o:Option T):Lv:=Lf "_law_value" [some .row,some (.int n),some (.int (4:Nat)),none,none,o] [("parts",.list (acc.map bh),.own)]
theorem jX:∀(l:List T) (acc:List (Option (List T))) (r:List Int) (o:Option T),bB r→acc.length+l.length < 900→(∀p∈acc,CI p)→
  ∃PS r' o',bB r'∧PS.length=acc.length+l.length∧(∀p∈PS,CI p)∧eh (ae (d+2)) "lap" (jD "_law_value" [5,1]) l (Me n acc o) (gw r s)=.ok (.next,(Me n PS o').ev) (gw r' s)
 |[],acc,r,o,hr,_,ha=>⟨acc,r,o,hr,rfl,ha,rfl⟩
 |t::l,acc,r,o,hr,hl,ha=>by
  have hl:acc.length+(l.length+1) < 900:=hl;have Cc:(acc.map bh).length < 1000:=map_lt (Nat.lt_trans hl (by decide));have he:∀p:Option (List T),(acc++[p]).length+l.length=acc.length+(l.length+1):=fun p=>by rw [List.length_append,Nat.add_assoc,Nat.add_comm _ l.length];rfl
  obtain ⟨x1,r1,j,gf,hj,e1,m1⟩:=draw (d+1) s 3 (by decide) r hr;by_cases hc:(j:Int)=2
  ·obtain ⟨PS,r',o',q1,q2,q3,q4⟩:=jX l (acc++[none]) r1 (some t) gf (he none▸hl) (oW ha fun _ e=>(bR e));unfold Me at q4;rw [List.map_append] at q4;exact ⟨PS,r',o',q1,q2.trans (he none),q3,aN (aV (.c 0 e1 <| .p "+" 0 m1 <| .t 0 (dT hc) <| .p "m" 0 (bU (acc.map bh) .null Cc) .nil) (by kernel_rfl)) q4⟩
  ·obtain ⟨x2,r2,j2,jU,Rb,e2,m2⟩:=draw (d+1) s 4 (by decide) r1 gf;obtain ⟨u,hu,e3⟩:=kZ (us:=[.int n,.int 1,.int 2,.int 0]) Rb rfl
   obtain ⟨m,rfl,hm⟩:∃m:Nat,u=.int (m:Int)∧m≤8:=by
    simp only [List.mem_cons,List.not_mem_nil,or_false] at hu;rcases hu with rfl|rfl|rfl|rfl
    ·exact ⟨n,rfl,hn⟩
    ·exact ⟨1,rfl,by decide⟩
    ·exact ⟨2,rfl,by decide⟩
    ·exact ⟨0,rfl,by decide⟩
   obtain ⟨us,r3,uA,hlen,lU,e4⟩:=uj d s r2 jU m (Nat.lt_of_le_of_lt hm (by decide));obtain ⟨PS,r',o',q1,q2,q3,q4⟩:=jX l (acc++[some us]) r3 (some t) uA (he (some us)▸hl) (oW ha fun RK e=>Option.some.inj e▸⟨hlen▸hm,lU⟩);unfold Me at q4;rw [List.map_append] at q4;exact ⟨PS,r',o',q1,q2.trans (he (some us)),q3,aN (aV (.c 0 e1 <| .p "+" 0 m1 <| .t 0 (dF hc) <| .c 0 e2 <| .p "+" 0 m2 <| .p "i" 0 e3 <| .c 0 e4 <| .p "m" 0 (bU (acc.map bh) (.vec "character" us .none) Cc) .nil) (by kernel_rfl)) q4⟩
theorem FC (r r1:List Int)(gf:bB r1){x:Int}(e:ae (d+2) "_law_next" [.row] (gw r s)=.ok (.int x,.val) (gw r1 s))(m:∀s,ay (dy .Mod (.int x) (.int 7)) s=.ok (.int (4:Nat),.val) s):uk s (ae (d+3) "_law_value" [.row,.int n] (gw r s)):=by
 obtain ⟨x2,r2,j,jU,hj,e2,m2⟩:=draw (d+1) s 4 (by decide) r1 gf;obtain ⟨PS,r3,o,uA,hl,hp,e3⟩:=jX d s n hn ((List.range' 0 j).map fun i:Nat=>T.int (i:Int)) [] r2 none jU (by rw [List.length_map,List.length_range',List.length_nil];lia) (fun p hp=>absurd hp List.not_mem_nil);obtain ⟨x4,r4,j4,Md,RM,e4,m4⟩:=draw (d+1) s 3 (by decide) r3 uA;have hl:PS.length≤3:=by rw [List.length_map,List.length_range',List.length_nil] at hl;lia
 have Jk:∀us,some us∈PS→us.length≤8∧∀u∈us,fR u:=fun us h=>hp _ h us rfl
 by_cases hc:(j4:Int)=2
 ·exact ⟨.lst PS (some ((([.str "r",.str "s",.str "t"]:List T).take (PS.map bh).length).drop 0)),r4,.own,.inr (.inl rfl),run (.c 0 e <| .p "+" 0 m <| .c 0 e2 <| .p "+" 0 m2 <| .l 0 (aQ (n:=j) (by lia)) <| .o "for" 0 e3 <| .c 0 e4 <| .p "+" 0 m4 <| .t 0 (dT hc) .nil) (by kernel_rfl),Md,hl,Jk,fun hs e=>by
   induction Option.some.inj e;rw [List.drop_zero];refine ⟨by rw [List.length_take,List.length_map];exact Nat.min_eq_left hl,fun u hu=>?_⟩;have hu:=List.mem_of_mem_take hu;simp only [List.mem_cons,List.not_mem_nil,or_false] at hu;rcases hu with rfl|rfl|rfl<;>exact .inr ⟨_,rfl,by decide +kernel⟩⟩
 ·exact ⟨.lst PS none,r4,.own,.inr (.inl rfl),run (.c 0 e <| .p "+" 0 m <| .c 0 e2 <| .p "+" 0 m2 <| .l 0 (aQ (n:=j) (by lia)) <| .o "for" 0 e3 <| .c 0 e4 <| .p "+" 0 m4 <| .t 0 (dF hc) .nil) (by kernel_rfl),Md,hl,Jk,fun hs e=>(bR e)⟩
theorem zq (r:List Int)(hr:bB r):uk s (ae (d+3) "_law_value" [.row,.int n] (gw r s)):=by
 obtain ⟨x,r1,j,gf,hj,e,m⟩:=draw (d+1) s 7 (by decide) r hr;have hj:j < 7:=Int.ofNat_lt.mp hj;rcases j with _|_|_|_|_|_|_|j
 ·exact Fv d s n hn r r1 gf e m
 ·exact Fw d s n hn r r1 gf e m
 ·exact Fx d s n hn r r1 gf e m
 ·exact FA d s n hn r r1 gf e m
 ·exact FC d s n hn r r1 gf e m
 ·exact Fz d s n hn r r1 gf e m
 ·exact Fy d s n hn r r1 gf e m
 ·exact absurd hj (Nat.not_lt.mpr (Nat.le_add_left 7 j))
end
theorem oX {acc:List Int}(h:bB acc)(f:Int):bB (acc++[Int.fmod f 1024]):=oW h ⟨Int.fmod_nonneg_of_pos f (by decide),Int.fmod_lt_of_pos f (by decide)⟩
section
variable (d:Nat)(s:Sg)
noncomputable abbrev Mf (sc c:T)(f:Int)(acc:List Int)(o:Option T):Lv:=Lf "_law_row" [some sc,none,some c,some (.int f),o] [("row",.list (acc.map .int),.own)]
theorem oY (sc c:T):∀(l:List T) (acc:List Int) (f:Int) (o:Option T),bB acc→acc.length+l.length < 2000→
  ∃cO f' o',bB cO∧cO.length≤acc.length+l.length∧eh (ae d) "lap" (jD "_law_row" [1,3]) l (Mf sc c f acc o) s=.ok (.next,(Mf sc c f' cO o').ev) s
 |[],acc,f,o,ha,hl=>⟨acc,f,o,ha,Nat.le_refl _,rfl⟩
 |t::l,acc,f,o,ha,hl=>by
  have hl:acc.length+(l.length+1) < 2000:=hl;by_cases hc:(0:Int) < f
  ·obtain ⟨cO,f',o',h1,h2,h3⟩:=oY sc c l (acc++[Int.fmod f 1024]) (Int.fdiv f 1024) (some t) (oX ha f) (fJ hl);unfold Mf at h3;rw [List.map_append] at h3;exact ⟨cO,f',o',h1,Nat.le_trans h2 (by rw [List.length_append,Nat.add_assoc,Nat.add_comm _ l.length];exact Nat.le_refl _),aN (aV (.t 0 (dT hc) <| .p "m" 0 (mW (acc.map .int) (.int (Int.fmod f 1024)) (map_lt hl)) .nil) (by kernel_rfl)) h3⟩
  ·obtain ⟨cO,f',o',h1,h2,h3⟩:=oY sc c l acc f (some t) ha (Nat.lt_of_le_of_lt (Nat.add_le_add_left (Nat.le_succ _) _) hl);exact ⟨cO,f',o',h1,Nat.le_trans h2 (Nat.add_le_add_left (Nat.le_succ _) _),aN (aV (.t 0 (dF hc) .nil) (by kernel_rfl)) h3⟩
theorem um (sc:T):∀(l:List Int) (acc:List Int) (c f o:Option T),bB acc→acc.length+31 * l.length < 1900→
  ∃cO c' f' o',bB cO∧eh (ae d) "cell" (jD "_law_row" [1]) (l.map .int) (Lf "_law_row" [some sc,none,c,f,o] [("row",.list (acc.map .int),.own)]) s=.ok (.next,(Lf "_law_row" [some sc,none,c',f',o'] [("row",.list (cO.map .int),.own)]).ev) s
 |[],acc,c,f,o,ha,_=>⟨acc,c,f,o,ha,rfl⟩
 |i::l,acc,c,f,o,ha,hl=>by
  have go (Mg:Int) (hb:∀b,decide ((0:Int)≤i)=b→(if b=true then i else 7 - i)=Mg):∃cO c' f' o',bB cO∧eh (ae d) "cell" (jD "_law_row" [1]) ((i::l).map .int) (Lf "_law_row" [some sc,none,c,f,o] [("row",.list (acc.map .int),.own)]) s=.ok (.next,(Lf "_law_row" [some sc,none,c',f',o'] [("row",.list (cO.map .int),.own)]).ev) s:=by
   have hl:acc.length+31 * (l.length+1) < 1900:=hl;obtain ⟨Lp,f1,o1,h1,h2,h3⟩:=oY d s sc (.int i) ((List.range' 0 30).map fun i:Nat=>T.int (i:Int)) (acc++[Int.fmod Mg 1024]) (Int.fdiv Mg 1024) o (oX ha Mg) (by rw [List.length_append,List.length_map,List.length_range'];show acc.length+1+30 < 2000;lia);rw [List.length_append,List.length_map,List.length_range'] at h2;obtain ⟨cO,c',f',o',g1,g2⟩:=um sc l Lp (some (.int i)) (some (.int f1)) o1 h1 (by have h2:Lp.length≤acc.length+1+30:=h2;lia);unfold Mf at h3;rw [List.map_append] at h3;by_cases hc:(0:Int)≤i
   ·have e:=hb true (dT hc);rw [if_pos rfl] at e;subst e;exact ⟨cO,c',f',o',g1,aN (aV (.t 0 (dT hc) <| .p "m" 0 (mW (acc.map .int) (.int (Int.fmod i 1024)) (by rw [List.length_map];lia)) <| .o "for" 0 h3 .nil) (by kernel_rfl)) g2⟩
   ·have e:=hb false (dF hc);rw [if_neg (by decide)] at e;subst e;exact ⟨cO,c',f',o',g1,aN (aV (.t 0 (dF hc) <| .p "m" 0 (mW (acc.map .int) (.int (Int.fmod (7 - i) 1024)) (by rw [List.length_map];lia)) <| .o "for" 0 h3 .nil) (by kernel_rfl)) g2⟩
  exact go _ fun b hb=>by rw [←hb]
theorem FD (aK:List Int):∃out,bB out∧out.length≤160∧ae (d+1) "_law_row" [.list (aK.map .int)] s=.ok (.list (out.map .int),.own) s:=by
 obtain ⟨acc,c,f,o,h,e⟩:=um d s (.list (aK.map .int)) ((aK.take 40).drop 0) [] none none none (fun x hx=>absurd hx List.not_mem_nil) (by rw [List.drop_zero,List.length_nil,List.length_take];have:=Nat.min_le_left 40 aK.length;lia);refine ⟨((acc.take 160).drop 0).reverse,fun x hx=>?_,?_,?_⟩
 ·rw [List.mem_reverse,List.drop_zero] at hx;exact h x (List.mem_of_mem_take hx)
 ·rw [List.length_reverse,List.drop_zero,List.length_take];exact Nat.min_le_left _ _
 ·rw [List.map_drop,List.map_take] at e;rw [List.map_reverse,List.map_drop,List.map_take];exact run (.o "for" 0 e .nil) (by kernel_rfl)
end
noncomputable def Lq:Out→Bool
 |.next=>true
 |_=>false
theorem cm {G:Calls}:∀{a b:List Stmt} {L L1:Ev} {s s1:Sg} {R:Res (Out×Ev)},ak G a L s=.ok (.next,L1) s1→ak G b L1 s1=R→ak G (a++b) L s=R
 |[],b,L,L1,s,s1,R,h,h2=>by cases h;exact h2
 |x::a,b,L,L1,s,s1,R,h,h2=>by
  have h:M.bind (cn G x L) (fun q=>match q with|(.next,L')=>ak G a L'|o=>pure o) s=.ok (.next,L1) s1:=h;show M.bind (cn G x L) (fun q=>match q with|(.next,L')=>ak G (a++b) L'|o=>pure o) s=R;unfold M.bind at h ⊢
  induction hx:cn G x L s with
  |stuck=>rw [hx] at h;exact (Mn h)
  |ct e s'=>rw [hx] at h;exact (OD h)
  |ok q s'=>
   rw [hx] at h;obtain ⟨o,L'⟩:=q
   induction o with
   |next=>exact cm h h2
   |cont=>exact d9 (congrArg Lq (Prod.mk.inj (G1 h).1).1)
   |ret t k=>exact d9 (congrArg Lq (Prod.mk.inj (G1 h).1).1)
noncomputable def sl (i n:Nat):List Stmt:=((jD "law" [5]).drop i).take n
theorem i8 {a b:T}{kd:Kd}(hk:kd=.val∨kd=.own)(ha:a≠.row)(h:eqT wC a b=some true)(s:Sg):(fi .NotEq (a,kd) b>>=val) s=.ok (.bool false,.val) s:=by
 have e:qB .NotEq a b=some false:=by
  show (eqT wC a b).map (!·)=_;rw [h];rfl
 have e2:JA .NotEq a b s=match qB .NotEq a b with|some r=>(Res.ok (T.bool r) s:Res T)|none=>.stuck:=by
  cases a<;>first|rfl|exact absurd rfl ha
 have e3:fi .NotEq (a,kd) b s=.ok (.bool false) s:=by
  rcases hk with rfl|rfl<;>exact e2.trans (by rw [e])
 exact bf e3
noncomputable abbrev jx (sc k n v seen:T)(bP:Option T)(r:List (Option T)):Lv:=Lf "law" (some sc::some .row::some k::some n::some v::some seen::bP::r) []
section
variable (d:Nat)(sc:T)(k:Str)(n:Nat)(v seen:T)(bP:Option T)(f:Nat→Option T)
theorem PR (s:Option aM)(r:List Int)(hr:bB r)(hn:n≤8):∃(nm:Str) (V:Vl) (r2:List Int),nm∈(["names","dim","dimnames","class","levels","row.names","unit"]:List Str)∧V.ok∧bB r2∧ak (ae (d+15)) (sl 0 2) (jx sc (.str k) (.int n) v seen bP [f 0,f 1,f 2,f 3,f 4,f 5,f 6,f 7,f 8,f 9,f 10]).ev (gw r s)=.ok (.next,(jx sc (.str k) (.int n) v seen bP [some (.str nm),some V.t,f 2,f 3,f 4,f 5,f 6,f 7,f 8,f 9,f 10]).ev) (gw r2 s):=by
 obtain ⟨x,r1,j,gf,hj,e1,m1⟩:=draw (d+14) s 7 (by decide) r hr;obtain ⟨u,hu,e2⟩:=kZ (us:=[.str "names",.str "dim",.str "dimnames",.str "class",.str "levels",.str "row.names",.str "unit"]) hj rfl
 obtain ⟨nm,rfl,Jl⟩:∃nm:Str,u=.str nm∧nm∈(["names","dim","dimnames","class","levels","row.names","unit"]:List Str):=by
  obtain ⟨nm,h,rfl⟩:=List.mem_map.mp (show u∈(["names","dim","dimnames","class","levels","row.names","unit"]:List Str).map T.str from hu);exact ⟨nm,rfl,h⟩
 obtain ⟨V,r2,kd,hk,e3,jU,hV⟩:=zq (d+12) s n hn r1 gf;refine ⟨nm,V,r2,Jl,hV,jU,?_⟩;rcases hk with rfl|rfl|rfl<;>exact aV (.c 0 e1 <| .p "+" 0 m1 <| .p "i" 0 e2 <| .c 0 e3 .nil) (by kernel_rfl)
section
variable (nm:Str)(V:T)(r:List Int){k':Str}(s s2:Sg)
theorem FE (hk:k≠"NULL")(m:Str)(h:ae (d+15) "_law_set" [seen,.str k,.int n,.str nm,V] s=.ok (.str m,.val) s)(h2:ae (d+15) "set_attr" [.self,.str nm,V] s=.ct m s):
  ak (ae (d+15)) (sl 2 5) (jx sc (.str k) (.int n) .self seen bP [some (.str nm),some V,f 2,f 3,f 4,f 5,f 6,f 7,f 8,f 9,f 10]).ev s=.ok (.next,(jx sc (.str k) (.int n) .self seen bP [some (.str nm),some V,some (.str m),some (.str m),f 4,f 5,f 6,f 7,f 8,f 9,f 10]).ev) s:=
 aV (.c 0 h <| .c 0 h2 <| .t 1 (nF (p:=m=m) rfl) <| .t 1 (dF hk) .nil) (by kernel_rfl)
theorem CJ (hk:k≠"NULL")(C6:List (Str×T))(h:ae (d+15) "_law_set" [seen,.str k,.int n,.str nm,V] s=.ok (.dict C6,.own) s)(h2:ae (d+15) "set_attr" [.self,.str nm,V] s=.ok (.none,.val) s2):
  ak (ae (d+15)) (sl 2 5) (jx sc (.str k) (.int n) .self seen bP [some (.str nm),some V,f 2,f 3,f 4,f 5,f 6,f 7,f 8,f 9,f 10]).ev s=.ok (.next,(jx sc (.str k) (.int n) .self (.dict C6) bP [some (.str nm),some V,some (.dict C6),some .none,f 4,f 5,f 6,f 7,f 8,f 9,f 10]).ev) s2:=
 aV (.c 0 h <| .c 0 h2 <| .t 3 (dF hk) .nil) (by kernel_rfl)
theorem CK (dh:k'≠"NULL")(us:List T)(a:T):
  ak (ae (d+15)) (sl 2 19) (jx sc (.str "NULL") (.int n) .null seen bP [some (.str nm),some (.vec k' us a),f 2,f 3,f 4,f 5,f 6,f 7,f 8,f 9,f 10]).ev s=.ok (.cont,(jx sc (.str "NULL") (.int n) .null seen bP [some (.str nm),some (.vec k' us a),some (.str "attempt to set an attribute on NULL"),some (.str "attempt to set an attribute on NULL"),f 4,f 5,f 6,f 7,f 8,f 9,f 10]).ev) s:=
 aV (.t 1 (dF dh) <| .t 1 (nT dh) .nil) (by kernel_rfl)
theorem CL (es:List (Str×T)):
  ak (ae (d+15)) (sl 2 19) (jx sc (.str "NULL") (.int n) .null (.dict es) bP [some (.str nm),some .null,f 2,f 3,f 4,f 5,f 6,f 7,f 8,f 9,f 10]).ev s=.ok (.cont,(jx sc (.str "NULL") (.int n) .null (.dict es) bP [some (.str nm),some .null,some (.dict es),some .none,f 4,f 5,f 6,f 7,f 8,f 9,f 10]).ev) s:=
 aV .nil (by kernel_rfl)
end
end
theorem Lr {l:List T}:T.list l≠.row:=fun h=>nomatch h
theorem PT {b:Bool}:T.bool b≠.row:=fun h=>nomatch h
theorem jo {m:Nat}{us:List T}(h:∀u∈us,fQ u):eqT (m+2) (.list us) (.list us)=some true:=eq_list fun a ha=>CF (h a ha)
theorem uo {m:Nat}{p:T}(h:p=.null∨pz p):eqT (m+2) (qr p) (qr p)=some true:=by
 rcases h with rfl|⟨us,rfl,hu⟩
 ·rfl
 ·exact jo hu
theorem IX {lk:Lk}(S:Shape lk):eqT 8 (cC (lk "dim")) (cC (lk "dim"))=some true:=by
 rcases dU S with h|⟨ds,_,_,h⟩
 ·rw [h];rfl
 ·rw [h];exact eq_list (m:=7) fun a ha=>by obtain ⟨i,_,rfl⟩:=List.mem_map.mp ha;exact eq_int _ i
theorem IY {lk:Lk}(S:Shape lk):eqT 8 (.list (jW lk)) (.list (jW lk))=some true:=by
 unfold jW;rcases jn S with h|⟨u,us,h,hu⟩
 ·rw [h];rfl
 ·rw [h];exact jo (m:=6) hu
theorem Ls {lk:Lk}(S:Shape lk):eqT 8 (partsOf (lk "dimnames")) (partsOf (lk "dimnames"))=some true:=by
 rcases eE S with h|⟨p,ps,hh,h,hq⟩
 ·rw [h];rfl
 ·rw [h];exact eq_list (m:=7) fun a ha=>by obtain ⟨q,hm,rfl⟩:=List.mem_map.mp ha;exact uo (m:=5) (hq q hm)
theorem Lu {lk:Lk}(S:Shape lk):eqT 8 (d8 lk) (d8 lk)=some true:=by
 unfold d8;by_cases hb:iU lk=true
 ·rw [if_pos hb];rcases eE S with h|⟨p,ps,hh,h,hq⟩
  ·rw [h];rfl
  ·rw [h];exact uo (m:=6) (hq p (.head _))
 ·rw [if_neg hb];rcases i7 S with h|⟨us,h,hu⟩
  ·rw [h];rfl
  ·rw [h];exact jo (m:=6) hu
theorem FF {lk:Lk}(S:Shape lk):eqT wC (.list [d8 lk,cC (lk "dim"),partsOf (lk "dimnames"),.list (jW lk)]) (.list [d8 lk,cC (lk "dim"),partsOf (lk "dimnames"),.list (jW lk)])=some true:=
 eq_list (m:=8) (List.forall_mem_cons.mpr ⟨Lu S,List.forall_mem_cons.mpr ⟨IX S,List.forall_mem_cons.mpr ⟨Ls S,fun a ha=>List.mem_singleton.mp ha▸IY S⟩⟩⟩)
theorem FG (lk:Lk)(k:Str):eqT wC (.list (pB lk++[.str k]++pA k)) (.list (pB lk++[.str k]++pA k))=some true:=by
 have str1:∀x:Str,∀u∈[T.str x],fQ u:=fun x u hu=>.inr ⟨x,List.mem_singleton.mp hu⟩
 have h1:∀u∈pB lk,fQ u:=by
  rcases qu lk with h|h|h<;>rw [h]
  ·exact fun u hu=>absurd hu List.not_mem_nil
  ·exact List.forall_mem_cons.mpr ⟨.inr ⟨_,rfl⟩,str1 _⟩
  ·exact str1 _
 have h2:∀u∈pA k,fQ u:=by
  unfold pA;by_cases hk:k="integer"∨k="double"
  ·rw [if_pos hk];exact str1 _
  ·rw [if_neg hk];exact fun u hu=>absurd hu List.not_mem_nil
 exact jo (m:=7) fun u hu=>(List.mem_append.mp hu).elim (fun h=>(List.mem_append.mp h).elim (h1 u) (str1 k u)) (h2 u)
inductive oZ (seen:List (Str×T)) (y:Str):T→Prop
 |no (h:seen.lookup y=none):oZ seen y .none
 |at_ (a b:T) (ts:List T) (h:seen.lookup y=some (.tup [a,.list ts,b])):oZ seen y (.list ts)
section
variable (d:Nat)(sc:T)(k:Str)(n:Nat)(seen:List (Str×T))(bP:Option T)(c0 c1 c2 c3 sh X Y N W U P:T)(f:Nat→Option T)(s:Sg)
noncomputable abbrev bV (r:List (Option T)):Lv:=jx sc (.str k) (.int n) .self (.dict seen) bP (some c0::some c1::some c2::some c3::r)
theorem Rc (a b:T)(hv:ae (d+15) "_law_view" [.self] s=.ok (.tup [a,b,sh],.val) s)(hr:sh≠.row)(he:eqT wC sh (.dict seen)=some true):ak (ae (d+15)) (sl 7 2) (bV sc k n seen bP c0 c1 c2 c3 [f 4,f 5,f 6,f 7,f 8,f 9,f 10]).ev s=.ok (.next,(bV sc k n seen bP c0 c1 c2 c3 [some sh,f 5,f 6,f 7,f 8,f 9,f 10]).ev) s:=
 aV (.c 0 hv <| .p "c" 0 (i8 (.inl rfl) hr he) .nil) (by kernel_rfl)
theorem Rd (h:oZ seen "dim" X):ak (ae (d+15)) (sl 9 2) (bV sc k n seen bP c0 c1 c2 c3 [some sh,f 5,f 6,f 7,f 8,f 9,f 10]).ev s=.ok (.next,(bV sc k n seen bP c0 c1 c2 c3 [some sh,some X,some .none,f 7,f 8,f 9,f 10]).ev) s:=by
 induction h with
 |no h=>exact aV (.t 0 (lX h) .nil) (by kernel_rfl)
 |at_ a b ts h=>exact aV (.t 0 (i6 h) <| .p "i" 0 (bY h) .nil) (by kernel_rfl)
noncomputable def CM:T→T
 |.tup (_::u::_)=>u
 |_=>.none
theorem FH (h:seen.lookup ("dimnames":Str)=none):ak (ae (d+15)) (sl 11 1) (bV sc k n seen bP c0 c1 c2 c3 [some sh,some X,some .none,f 7,f 8,f 9,f 10]).ev s=.ok (.next,(bV sc k n seen bP c0 c1 c2 c3 [some sh,some X,some .none,f 7,f 8,f 9,f 10]).ev) s:=
 aV (.t 0 (lX h) .nil) (by kernel_rfl)
theorem Ol (a b:T)(ps:List T)(h:seen.lookup ("dimnames":Str)=some (.tup [a,.list ps,b]))(hp:∀p∈ps,p=.str "NULL"∨∃u v w,p=.tup [u,v,w]):ak (ae (d+15)) (sl 11 1) (bV sc k n seen bP c0 c1 c2 c3 [some sh,some X,some .none,f 7,f 8,f 9,f 10]).ev s=.ok (.next,(bV sc k n seen bP c0 c1 c2 c3 [some sh,some X,some (.list (ps.map CM)),f 7,f 8,f 9,f 10]).ev) s:=by
 have q:=comp_map (G:=ae (d+15)) (L:=(bV sc k n seen bP c0 c1 c2 c3 [some sh,some X,some .none,f 7,f 8,f 9,f 10]).ev) (e:=gI "law" [5,11] 0 [0]) (l:=ps) (k:=.val) (s:=s) (by kernel_rfl) uy CM (fun _ _=>by kernel_rfl) fun t ht=>.v (by
  rcases hp t ht with rfl|⟨u,v,w,rfl⟩<;>exact eC .nil (by kernel_rfl))
 exact aV (.t 0 (i6 h) <| .p "i" 0 (bY h) <| .v "[]" 0 q .nil) (by kernel_rfl)
theorem Om (h:oZ seen "names" N):ak (ae (d+15)) (sl 12 1) (bV sc k n seen bP c0 c1 c2 c3 [some sh,some X,some Y,f 7,f 8,f 9,f 10]).ev s=.ok (.next,(bV sc k n seen bP c0 c1 c2 c3 [some sh,some X,some Y,some N,f 8,f 9,f 10]).ev) s:=by
 induction h with
 |no h=>exact aV (.t 0 (lX h) .nil) (by kernel_rfl)
 |at_ a b ts h=>exact aV (.t 0 (i6 h) <| .p "i" 0 (bY h) .nil) (by kernel_rfl)
theorem FI:ak (ae (d+15)) (sl 13 1) (bV sc k n seen bP c0 c1 c2 c3 [some sh,some .none,some Y,some N,f 8,f 9,f 10]).ev s=.ok (.next,(bV sc k n seen bP c0 c1 c2 c3 [some sh,some .none,some Y,some N,f 8,f 9,f 10]).ev) s:=aV .nil (by kernel_rfl)
theorem FJ (ds:List T)(h:ds.length≠1):ak (ae (d+15)) (sl 13 1) (bV sc k n seen bP c0 c1 c2 c3 [some sh,some (.list ds),some Y,some N,f 8,f 9,f 10]).ev s=.ok (.next,(bV sc k n seen bP c0 c1 c2 c3 [some sh,some (.list ds),some Y,some N,f 8,f 9,f 10]).ev) s:=aV (.t 1 (bN (b:=1) h) .nil) (by kernel_rfl)
theorem FK (ds:List T)(h:ds.length=1):ak (ae (d+15)) (sl 13 1) (bV sc k n seen bP c0 c1 c2 c3 [some sh,some (.list ds),some .none,some N,f 8,f 9,f 10]).ev s=.ok (.next,(bV sc k n seen bP c0 c1 c2 c3 [some sh,some (.list ds),some .none,some .none,f 8,f 9,f 10]).ev) s:=aV (.t 1 (ff (b:=1) h) .nil) (by kernel_rfl)
theorem FL (ds:List T)(h:ds.length=1)(z:T)(ps:List T):ak (ae (d+15)) (sl 13 1) (bV sc k n seen bP c0 c1 c2 c3 [some sh,some (.list ds),some (.list (z::ps)),some N,f 8,f 9,f 10]).ev s=.ok (.next,(bV sc k n seen bP c0 c1 c2 c3 [some sh,some (.list ds),some (.list (z::ps)),some z,f 8,f 9,f 10]).ev) s:=aV (.t 1 (ff (b:=1) h) .nil) (by kernel_rfl)
theorem FN (h:seen.lookup ("class":Str)=none):ak (ae (d+15)) (sl 14 1) (bV sc k n seen bP c0 c1 c2 c3 [some sh,some X,some Y,some N,f 8,f 9,f 10]).ev s=.ok (.next,(bV sc k n seen bP c0 c1 c2 c3 [some sh,some X,some Y,some N,some (.list []),f 9,f 10]).ev) s:=
 aV (.t 0 (lX h) .nil) (by kernel_rfl)
theorem Oo (a b:T)(ts:List T)(h:seen.lookup ("class":Str)=some (.tup [a,.list ts,b])):ak (ae (d+15)) (sl 14 1) (bV sc k n seen bP c0 c1 c2 c3 [some sh,some X,some Y,some N,f 8,f 9,f 10]).ev s=.ok (.next,(bV sc k n seen bP c0 c1 c2 c3 [some sh,some X,some Y,some N,some (.list ts),f 9,f 10]).ev) s:=
 aV (.t 0 (i6 h) <| .p "i" 0 (bY h) .nil) (by kernel_rfl)
theorem FO:ak (ae (d+15)) (sl 15 1) (bV sc k n seen bP c0 c1 c2 c3 [some sh,some .none,some Y,some N,some W,f 9,f 10]).ev s=.ok (.next,(bV sc k n seen bP c0 c1 c2 c3 [some sh,some .none,some Y,some N,some W,some (.list []),f 10]).ev) s:=aV .nil (by kernel_rfl)
theorem Oq (ds:List T):ak (ae (d+15)) (sl 15 1) (bV sc k n seen bP c0 c1 c2 c3 [some sh,some (.list ds),some Y,some N,some W,f 9,f 10]).ev s=.ok (.next,(bV sc k n seen bP c0 c1 c2 c3 [some sh,some (.list ds),some Y,some N,some W,some (.list (if ds.length=2 then [.str "matrix",.str "array"] else [.str "array"])),f 10]).ev) s:=by
 by_cases h:ds.length=2
 ·rw [if_pos h];exact aV (.t 1 (ff (b:=2) h) .nil) (by kernel_rfl)
 ·rw [if_neg h];exact aV (.t 1 (bN (b:=2) h) .nil) (by kernel_rfl)
theorem Ot {k1 k2 k3:Kd}(q1:k1=.val∨k1=.own)(q2:k2=.val∨k2=.own)(q3:k3=.val∨k3=.own)(h1:ae (d+15) "names_of" [.self] s=.ok (N,k1) s)(h2:ae (d+15) "dim_of" [.self] s=.ok (X,k2) s)(h3:ae (d+15) "dimnames_of" [.self] s=.ok (Y,k3) s)(h4:ae (d+15) "class_attr" [.self] s=.ok (W,.own) s)(he:eqT wC (.list [N,X,Y,W]) (.list [N,X,Y,W])=some true):
  ak (ae (d+15)) (sl 16 1) (bV sc k n seen bP c0 c1 c2 c3 [some sh,some X,some Y,some N,some W,some U,f 10]).ev s=.ok (.next,(bV sc k n seen bP c0 c1 c2 c3 [some sh,some X,some Y,some N,some W,some U,f 10]).ev) s:=by
 have c:=i8 (kd:=.own) (.inr rfl) Lr he;rcases q1 with rfl|rfl<;>rcases q2 with rfl|rfl<;>rcases q3 with rfl|rfl<;>exact aV (.c 0 h1 <| .c 0 h2 <| .c 0 h3 <| .c 0 h4 <| .p "c" 0 c .nil) (by kernel_rfl)
theorem CN (s:Sg)(hk:k∈(["integer","double","character","logical","list"]:List Str)):(fi .In (.str k,.val) (.tup [.str "integer",.str "double"])>>=val) s=.ok (.bool (decide (k="integer"∨k="double")),.val) s:=by
 simp only [List.mem_cons,List.not_mem_nil,or_false] at hk;rcases hk with rfl|rfl|rfl|rfl|rfl<;>kernel_rfl
theorem Ou (us:List T)(hu:us.length≤2)(hk:k∈(["integer","double","character","logical","list"]:List Str))(h1:ae (d+15) "implicit_class" [.self] s=.ok (.list (us++[.str k]++pA k),.own) s)(he:eqT wC (.list (us++[.str k]++pA k)) (.list (us++[.str k]++pA k))=some true):
  ak (ae (d+15)) (sl 17 1) (bV sc k n seen bP c0 c1 c2 c3 [some sh,some X,some Y,some N,some W,some (.list us),f 10]).ev s=.ok (.next,(bV sc k n seen bP c0 c1 c2 c3 [some sh,some X,some Y,some N,some W,some (.list us),f 10]).ev) s:=by
 have ha:∀s,ay (dy .Add (.list us) (.list [.str k])) s=.ok (.list (us++[.str k]),.own) s:=i0 (Nat.le_trans (Nat.succ_le_succ hu) (by decide));have hl:(us++[T.str k]).length≤3:=by rw [List.length_append];exact Nat.succ_le_succ hu
 unfold pA at h1 he;by_cases hq:k="integer"∨k="double"
 ·rw [if_pos hq] at h1 he;exact aV (.c 0 h1 <| .p "+" 0 ha <| .p "c" 0 (fun s=>CN k s hk) <| .t 0 (dT hq) <| .p "+" 0 (i0 (y:=[.str "numeric"]) (Nat.le_trans (Nat.succ_le_succ hl) (by decide))) <| .p "c" 0 (i8 (kd:=.own) (.inr rfl) Lr he) .nil) (by kernel_rfl)
 ·rw [if_neg hq] at h1 he;exact aV (.c 0 h1 <| .p "+" 0 ha <| .p "c" 0 (fun s=>CN k s hk) <| .t 0 (dF hq) <| .p "+" 0 (i0 (y:=[]) (Nat.le_trans hl (by decide))) <| .p "c" 0 (i8 (kd:=.own) (.inr rfl) Lr he) .nil) (by kernel_rfl)
theorem Ov:ak (ae (d+15)) (sl 18 1) (bV sc k n seen bP c0 c1 c2 c3 [some sh,some X,some Y,some N,some W,some U,f 10]).ev s=.ok (.next,(bV sc k n seen bP c0 c1 c2 c3 [some sh,some X,some Y,some N,some W,some U,some (.str (hZ k))]).ev) s:=by
 unfold hZ;by_cases h:k="double"
 ·rw [if_pos h];exact aV (.t 0 (dT h) .nil) (by kernel_rfl)
 ·rw [if_neg h];exact aV (.t 0 (dF h) .nil) (by kernel_rfl)
noncomputable def Ow (W U:List T)(k:Str):List T:=match W with
 |u::us=>u::us
 |[]=>match U with
  |u::us=>u::us
  |[]=>[.str (hZ k)]
theorem Ox (ws us:List T):ak (ae (d+15)) (sl 19 1) (bV sc k n seen bP c0 c1 c2 c3 [some sh,some X,some Y,some N,some (.list ws),some (.list us),some (.str (hZ k))]).ev s=.ok (.next,(bV sc k n seen bP c0 c1 (.list (Ow ws us k)) c3 [some sh,some X,some Y,some N,some (.list ws),some (.list us),some (.str (hZ k))]).ev) s:=by
 induction ws with
 |cons u r=>exact aV .nil (by kernel_rfl)
 |nil=>
  induction us with
  |cons u r=>exact aV .nil (by kernel_rfl)
  |nil=>exact aV .nil (by kernel_rfl)
theorem FP (l:List T)(p:T→Bool):decide ((0:Int) < ((l.filter p).length:Int))=l.any p:=by
 induction l with
 |nil=>rfl
 |cons a r ih=>
  rw [List.any_cons,List.filter_cons]
  induction h:p a with
  |true=>rw [if_pos rfl,Bool.true_or];exact iT (a:=0) (Nat.succ_pos _)
  |false=>rw [if_neg (by decide),Bool.false_or];exact ih
theorem Oy (C:List T)(hC:∀t∈C,fQ t){kd:Kd}(q:kd=.val∨kd=.own)(h1:ae (d+15) "class_of" [.self] s=.ok (.list C,kd) s)(h2:ae (d+15) "inherits" [.self,.list [.str "matrix",.str "b"]] s=.ok (.bool (C.any zF),.val) s):
  ak (ae (d+15)) (sl 20 1) (bV sc k n seen bP c0 c1 (.list C) c3 [some sh,some X,some Y,some N,some W,some U,some P]).ev s=.ok (.next,(bV sc k n seen bP c0 c1 (.list C) c3 [some sh,some X,some Y,some N,some W,some U,some P]).ev) s:=by
 have e:=mC (G:=ae (d+15)) (L:=(bV sc k n seen bP c0 c1 (.list C) c3 [some sh,some X,some Y,some N,some W,some U,some P]).ev) (e:=gI "law" [5] 20 [1,1,0,1]) (l:=C) (k:=.val) (s:=s) (by kernel_rfl) uy zF (fun t ht=>by
  induction hb:zF t with
  |true=>rcases hC t ht with rfl|⟨x,rfl⟩<;>exact runC (.t 0 hb .nil) (by kernel_rfl)
  |false=>rcases hC t ht with rfl|⟨x,rfl⟩<;>exact runC (.t 0 hb .nil) (by kernel_rfl)) fun t ht=>.v (eC .nil (by kernel_rfl))
 have hb:eqT wC (.bool (C.any zF)) (.bool (decide ((0:Int) < ((C.filter zF).length:Int))))=some true:=by
  rw [FP];show some (C.any zF == C.any zF)=_;rw [beq_self_eq_true]
 rcases q with rfl|rfl
 ·exact aV (.c 0 h1 <| .p "c" 0 (i8 (.inl rfl) Lr (jo (m:=7) hC)) <| .c 0 h2 <| .v "[]" 0 e <| .p "c" 1 (i8 (.inl rfl) PT hb) .nil) (by kernel_rfl)
 ·exact aV (.c 0 h1 <| .p "c" 0 (i8 (kd:=.own) (.inr rfl) Lr (jo (m:=7) hC)) <| .c 0 h2 <| .v "[]" 0 e <| .p "c" 1 (i8 (.inl rfl) PT hb) .nil) (by kernel_rfl)
end
structure zr (k:Str) (n:Nat) (ah:List T) (at':oH) (seen:List (Str×T)) (c:Nat):Prop where
 O:Ok k n ah at'
 S:Shape (cw at')
 E:Seen seen (cw at')
 sz:(at'.getD []).length≤c
 Jm:seen.length≤c
 hit:k="list"→∀t∈ah,t=.null
theorem Lw:jD "law" [5]=sl 0 2++sl 2 19:=by kernel_rfl
theorem xQ {seen:List (Str×T)}{lk:Lk}(E:Seen seen lk){y:Str}(h:lk y=none∨∃k us a,lk y=some (.vec k us a)∧k≠"list"):oZ seen y (cC (lk y)):=by
 rcases h with h|⟨k,us,a,h,hk⟩
 ·have e:=E.at' y;rw [h] at e ⊢;exact .no e
 ·have e:=E.at' y;rw [h] at e ⊢;refine .at_ (.str k) (.dict (L9 a)) us (e.trans ?_);show some (T.tup [.str k,.list (if k="list" then us.map j0 else us),.dict (L9 a)])=_;rw [if_neg hk]
section
variable (d:Nat)(sc:T){k:Str}{n:Nat}{ah:List T}{at':oH}{seen:List (Str×T)}{c:Nat}(bP:Option T)(c0 c1 c2 c3:T)(f:Nat→Option T)(ep:Nat)(r:List Int)
section
variable (I:zr k n ah at' seen c)
include I
theorem CO:ae (d+15) "_law_view" [.self] (SG (some r) k ah at' ep)=.ok (.tup [.str k,.list (lW k ah),.dict ((at'.getD []).map fun p=>(p.1,vw p.2))],.val) (SG (some r) k ah at' ep):=by
 refine y9 (d+13) (some r) ep I.O.hk I.O.nd I.hit fun p hp=>?_
 rcases (I.S p.1 p.2 (dc I.O.nd hp)).good with ⟨k',ts,dh,e,_⟩|⟨ps,h,e,Jk,_⟩
 ·rw [e];have q:=gM (d+13) (SG (some r) k ah at' 0) dh ts;refine Eq.trans q ?_;show Res.ok (T.tup [.str k',.list ts,.dict []],Kd.val) _=Res.ok (T.tup [.str k',.list (if k'="list" then ts.map j0 else ts),.dict []],Kd.val) _;rw [if_neg];simp only [List.mem_cons,List.not_mem_nil,or_false] at dh;rcases dh with rfl|rfl|rfl|rfl<;>decide +kernel
 ·rw [e];exact qk (d+12) _ ps h fun q hq=>(Jk q hq).elim .inl fun ⟨us,q',_⟩=>.inr ⟨us,q'⟩
theorem CP:∃f2:Nat→Option T,ak (ae (d+15)) (sl 7 2++(sl 9 2++(sl 11 1++(sl 12 1++(sl 13 1++(sl 14 1++sl 15 1)))))) (bV sc k n seen bP c0 c1 c2 c3 [f 4,f 5,f 6,f 7,f 8,f 9,f 10]).ev (SG (some r) k ah at' ep)=.ok (.next,(bV sc k n seen bP c0 c1 c2 c3 [some (.dict ((at'.getD []).map fun p=>(p.1,vw p.2))),some (cC (cw at' "dim")),some (partsOf (cw at' "dimnames")),some (d8 (cw at')),some (.list (jW (cw at'))),some (.list (pB (cw at'))),f2 10]).ev) (SG (some r) k ah at' ep):=by
 obtain ⟨O,S,E,_,_,_⟩:=id I;refine ⟨f,?_⟩;refine cm (Rc d sc k n seen bP c0 c1 c2 c3 _ f _ _ _ (CO d ep r I) nofun (Fq O.nd E.nd E.at' fun y t h=>(S y t h).good)) ?_;have Ce:oZ seen "dim" (cC (cw at' "dim")):=xQ E ((dU S).imp id fun ⟨ds,_,_,h⟩=>⟨_,_,_,h,by decide +kernel⟩);refine cm (Rd d sc k n seen bP c0 c1 c2 c3 _ _ f _ Ce) ?_
 have Rf:ak (ae (d+15)) (sl 11 1) (bV sc k n seen bP c0 c1 c2 c3 [some (.dict ((at'.getD []).map fun p=>(p.1,vw p.2))),some (cC (cw at' "dim")),some .none,f 7,f 8,f 9,f 10]).ev (SG (some r) k ah at' ep)=.ok (.next,(bV sc k n seen bP c0 c1 c2 c3 [some (.dict ((at'.getD []).map fun p=>(p.1,vw p.2))),some (cC (cw at' "dim")),some (partsOf (cw at' "dimnames")),f 7,f 8,f 9,f 10]).ev) (SG (some r) k ah at' ep):=by
  rcases eE S with h|⟨p,ps,hh,h,hq⟩
  ·rw [h];exact FH d sc k n seen bP c0 c1 c2 c3 _ _ f _ (by rw [E.at',h];rfl)
  ·have e:=Ol d sc k n seen bP c0 c1 c2 c3 (.dict ((at'.getD []).map fun p=>(p.1,vw p.2))) (cC (cw at' "dim")) f (SG (some r) k ah at' ep) _ _ ((p::ps).map j0) (by rw [E.at',h];rfl) fun q hm=>by
    obtain ⟨q',qR,rfl⟩:=List.mem_map.mp hm;rcases hq q' qR with rfl|⟨us,rfl,_⟩
    ·exact .inl rfl
    ·exact .inr ⟨_,_,_,rfl⟩
   have e2:((p::ps).map j0).map CM=(p::ps).map qr:=by
    refine Eq.trans List.map_map ?_;refine List.map_congr_left fun q hm=>?_
    rcases hq q hm with rfl|⟨us,rfl,_⟩<;>rfl
   rw [e2] at e;rw [h];exact e
 refine cm Rf ?_;have hn:oZ seen "names" (cC (cw at' "names")):=xQ E ((i7 S).imp id fun ⟨us,h,_⟩=>⟨_,_,_,h,by decide +kernel⟩);refine cm (Om d sc k n seen bP c0 c1 c2 c3 _ _ _ _ f _ hn) ?_
 have Rg:ak (ae (d+15)) (sl 13 1) (bV sc k n seen bP c0 c1 c2 c3 [some (.dict ((at'.getD []).map fun p=>(p.1,vw p.2))),some (cC (cw at' "dim")),some (partsOf (cw at' "dimnames")),some (cC (cw at' "names")),f 8,f 9,f 10]).ev (SG (some r) k ah at' ep)=.ok (.next,(bV sc k n seen bP c0 c1 c2 c3 [some (.dict ((at'.getD []).map fun p=>(p.1,vw p.2))),some (cC (cw at' "dim")),some (partsOf (cw at' "dimnames")),some (d8 (cw at')),f 8,f 9,f 10]).ev) (SG (some r) k ah at' ep):=by
  unfold d8 iU eS;rcases dU S with h|⟨ds,_,_,h⟩
  ·exact h▸(FI d sc k n seen bP c0 c1 c2 c3 _ _ _ f _)
  ·rw [h];by_cases h1:(ds.map T.int).length=1
   ·dsimp only;rw [if_pos (dT h1)];rcases eE S with h2|⟨p,ps,hh,h2,hq⟩
    ·rw [h2];exact FK d sc k n seen bP c0 c1 c2 c3 _ _ f _ _ h1
    ·rw [h2];exact FL d sc k n seen bP c0 c1 c2 c3 _ _ f _ _ h1 _ _
   ·dsimp only;rw [if_neg (dN h1)];exact FJ d sc k n seen bP c0 c1 c2 c3 _ _ _ f _ _ h1
 refine cm Rg ?_
 have Rh:ak (ae (d+15)) (sl 14 1) (bV sc k n seen bP c0 c1 c2 c3 [some (.dict ((at'.getD []).map fun p=>(p.1,vw p.2))),some (cC (cw at' "dim")),some (partsOf (cw at' "dimnames")),some (d8 (cw at')),f 8,f 9,f 10]).ev (SG (some r) k ah at' ep)=.ok (.next,(bV sc k n seen bP c0 c1 c2 c3 [some (.dict ((at'.getD []).map fun p=>(p.1,vw p.2))),some (cC (cw at' "dim")),some (partsOf (cw at' "dimnames")),some (d8 (cw at')),some (.list (jW (cw at'))),f 9,f 10]).ev) (SG (some r) k ah at' ep):=by
  unfold jW;rcases jn S with h|⟨u,us,h,_⟩
  ·rw [h];exact FN d sc k n seen bP c0 c1 c2 c3 _ _ _ _ f _ (by rw [E.at',h];rfl)
  ·rw [h];exact Oo d sc k n seen bP c0 c1 c2 c3 _ _ _ _ f _ _ _ _ (by rw [E.at',h];rfl)
 refine cm Rh ?_;unfold pB eS;rcases dU S with h|⟨ds,_,_,h⟩
 ·rw [h];exact FO d sc k n seen bP c0 c1 c2 c3 _ _ _ _ f _
 ·rw [h];exact Oq d sc k n seen bP c0 c1 c2 c3 _ _ _ _ f _ _
theorem CQ (f2:Nat→Option T)(sh:T):∃f3:Nat→Option T,ak (ae (d+15)) (sl 16 1++(sl 17 1++(sl 18 1++(sl 19 1++sl 20 1)))) (bV sc k n seen bP c0 c1 c2 c3 [some sh,some (cC (cw at' "dim")),some (partsOf (cw at' "dimnames")),some (d8 (cw at')),some (.list (jW (cw at'))),some (.list (pB (cw at'))),f2 10]).ev (SG (some r) k ah at' ep)=.ok (.next,(jx sc (.str k) (.int n) .self (.dict seen) bP [f3 0,f3 1,f3 2,f3 3,f3 4,f3 5,f3 6,f3 7,f3 8,f3 9,f3 10]).ev) (SG (some r) k ah at' ep):=by
 obtain ⟨O,S,E,_,_,_⟩:=I;refine ⟨fun i=>([some c0,some c1,some (.list (kX k (cw at'))),some c3,some sh,some (cC (cw at' "dim")),some (partsOf (cw at' "dimnames")),some (d8 (cw at')),some (.list (jW (cw at'))),some (.list (pB (cw at'))),some (.str (hZ k))]:List (Option T)).getD i none,?_⟩;obtain ⟨k1,q1,e1⟩:=zp (d+12) (some r) ep O S
 have q2:∃k2,(k2=Kd.val∨k2=.own)∧ae (d+15) "dim_of" [.self] (SG (some r) k ah at' ep)=.ok (cC (cw at' "dim"),k2) (SG (some r) k ah at' ep):=by
  have hd:=hO (d:=d+13) (row:=some r) (ep:=ep) O;unfold eS at hd;rcases dU S with h|⟨ds,_,_,h⟩
  ·rw [h] at hd ⊢;exact ⟨_,.inl rfl,hd⟩
  ·rw [h] at hd ⊢;exact ⟨_,.inr rfl,hd⟩
 obtain ⟨k2,q2,e2⟩:=q2;obtain ⟨k3,q3,e3⟩:=uh (d+13) (some r) ep O S;have e4:=xP (d+13) (some r) ep O S;refine cm (Ot d sc k n seen bP c0 c1 c2 c3 _ _ _ _ _ _ f2 _ q1 q2 q3 e1 e2 e3 e4 (FF S)) ?_;refine cm (Ou d sc k n seen bP c0 c1 c2 c3 _ _ _ _ _ f2 _ _ (rN _) O.hk (CG (d+11) (some r) ep O) (FG _ k)) ?_;refine cm (Ov d sc k n seen bP c0 c1 c2 c3 _ _ _ _ _ _ f2 _) ?_;refine cm (Ox d sc k n seen bP c0 c1 c2 c3 _ _ _ _ _ _ _) ?_;obtain ⟨kc,qc,ec⟩:=qt (d+11) (some r) ep O S;exact Oy d sc k n seen bP c0 c1 c3 _ _ _ _ _ _ _ _ (kX k (cw at')) (qv S k) qc ec (Ft (d+10) (some r) ep O S)
end
theorem turn (I:zr k n ah at' seen c)(hc:c < 90)(hr:bB r):∃(at2:oH) (fP:List (Str×T)) (mY:Nat) (r2:List Int) (f2:Nat→Option T),zr k n ah at2 fP (c+1)∧bB r2∧ak (ae (d+15)) (jD "law" [5]) (jx sc (.str k) (.int n) .self (.dict seen) bP [f 0,f 1,f 2,f 3,f 4,f 5,f 6,f 7,f 8,f 9,f 10]).ev (SG (some r) k ah at' ep)=.ok (.next,(jx sc (.str k) (.int n) .self (.dict fP) bP [f2 0,f2 1,f2 2,f2 3,f2 4,f2 5,f2 6,f2 7,f2 8,f2 9,f2 10]).ev) (SG (some r2) k ah at2 mY):=by
 obtain ⟨nm,V,r2,Jl,hV,jU,e0⟩:=PR d sc k n .self (.dict seen) bP f (some ⟨k,ah,at',ep⟩) r hr I.O.n8;have hp:=Cf d (some r2) ep I.O nm Jl V hV;have hl:=Fh (d+11) (SG (some r2) k ah at' ep) I.E n I.O.nul.1 I.O.n8 nm Jl V hV;have Oz:jD "law" [5]=sl 0 2++(sl 2 5++((sl 7 2++(sl 9 2++(sl 11 1++(sl 12 1++(sl 13 1++(sl 14 1++sl 15 1))))))++(sl 16 1++(sl 17 1++(sl 18 1++(sl 19 1++sl 20 1)))))):=by kernel_rfl
 rw [Oz]
 induction he:La (cw at') k n nm V with
 |inl m=>
  rw [he] at hp hl;obtain ⟨f2,e2⟩:=CP d sc bP (.str nm) V.t (.str m) (.str m) f ep r2 I;obtain ⟨f3,e3⟩:=CQ d sc bP (.str nm) V.t (.str m) (.str m) ep r2 I f2 _;exact ⟨at',seen,ep,r2,f3,⟨I.O,I.S,I.E,Nat.le_succ_of_le I.sz,Nat.le_succ_of_le I.Jm,I.hit⟩,jU,cm e0 (cm (FE d sc k n (.dict seen) bP f nm V.t _ I.O.nul.1 m hl hp) (cm e2 e3))⟩
 |inr u=>
  rw [he] at hp hl;obtain ⟨at2,mY,dQ,EY,PU,Jm⟩:=hp;obtain ⟨fP,el,Ri,Rj,PV⟩:=hl;have S2:Shape (cw at2):=funext PU▸zo I.S hV Jl he
  have I2:zr k n ah at2 fP (c+1):=
   ⟨⟨I.O.hk,I.O.len,I.O.n8,Nat.lt_of_le_of_lt Jm (Nat.lt_of_le_of_lt (Nat.succ_le_succ I.sz) (Nat.lt_trans (Nat.succ_lt_succ hc) (by decide))),EY,dU S2⟩,S2,⟨Ri,fun y=>(Rj y).trans (congrArg (Option.map vw) (PU y).symm),Nat.lt_of_le_of_lt PV (Nat.lt_of_le_of_lt (Nat.succ_le_succ I.Jm) (Nat.lt_trans (Nat.succ_lt_succ hc) (by decide))),dU S2⟩,Nat.le_trans Jm (Nat.succ_le_succ I.sz),Nat.le_trans PV (Nat.succ_le_succ I.Jm),I.hit⟩
  obtain ⟨f2,e2⟩:=CP d sc bP (.str nm) V.t (.dict fP) .none f mY r2 I2;obtain ⟨f3,e3⟩:=CQ d sc bP (.str nm) V.t (.dict fP) .none mY r2 I2 f2 _;exact ⟨at2,fP,mY,r2,f3,I2,jU,cm e0 (cm (CJ d sc k n (.dict seen) bP f nm V.t _ _ I.O.nul.1 fP el dQ) (cm e2 e3))⟩
theorem uq:∀(l:List T) (at':oH) (seen:List (Str×T)) (c ep:Nat) (r:List Int) (bP:Option T) (f:Nat→Option T),zr k n ah at' seen c→c+l.length < 90→bB r→
  ∃L' s',eh (ae (d+15)) "lap" (jD "law" [5]) l (jx sc (.str k) (.int n) .self (.dict seen) bP [f 0,f 1,f 2,f 3,f 4,f 5,f 6,f 7,f 8,f 9,f 10]) (SG (some r) k ah at' ep)=.ok (.next,Lv.ev L') s'
 |[],at',seen,c,ep,r,bP,f,I,hc,hr=>⟨_,_,rfl⟩
 |t::l,at',seen,c,ep,r,bP,f,I,hc,hr=>by
  have hc:c+(l.length+1) < 90:=hc;obtain ⟨at2,fP,mY,r2,f2,I2,jU,e⟩:=turn d sc (some t) f ep r I (Nat.lt_of_le_of_lt (Nat.le_add_right _ _) hc) hr;obtain ⟨L',s',e2⟩:=uq l at2 fP (c+1) mY r2 (some t) f2 I2 (by rw [Nat.add_assoc,Nat.add_comm 1];exact hc) jU;exact ⟨L',s',aN e e2⟩
end
theorem l6 (d:Nat)(sc:T):∀(l:List T) (r:List Int) (bP:Option T) (f:Nat→Option T),bB r→
  ∃L' s',eh (ae (d+15)) "lap" (jD "law" [5]) l (jx sc (.str "NULL") (.int (0:Nat)) .null (.dict []) bP [f 0,f 1,f 2,f 3,f 4,f 5,f 6,f 7,f 8,f 9,f 10]) ⟨some r,none⟩=.ok (.next,Lv.ev L') s'
 |[],r,bP,f,hr=>⟨_,_,rfl⟩
 |t::l,r,bP,f,hr=>by
  obtain ⟨nm,V,r2,Jl,hV,jU,e0⟩:=PR d sc "NULL" 0 .null (.dict []) (some t) f none r hr (by decide);by_cases hn:V=.nul
  ·subst hn;obtain ⟨L',s',e2⟩:=l6 d sc l r2 (some t) (fun i=>([some (.str nm),some .null,some (.dict []),some .none]:List (Option T)).getD i (f i)) jU;exact ⟨L',s',tS (Lw▸cm e0 (CL d sc 0 (some t) f nm _ [])) e2⟩
  ·obtain ⟨k',us,a,dh,e⟩:=hU hn;rw [e] at e0;obtain ⟨L',s',e2⟩:=l6 d sc l r2 (some t) (fun i=>([some (.str nm),some (.vec k' us a),some (.str "attempt to set an attribute on NULL"),some (.str "attempt to set an attribute on NULL")]:List (Option T)).getD i (f i)) jU;exact ⟨L',s',tS (Lw▸cm e0 (CK d sc 0 (.dict []) (some t) f nm _ dh us a)) e2⟩
theorem o3:∀l:List Int,intsOf (l.map .int)=some l
 |[]=>rfl
 |i::r=>by
  show (intsOf (r.map .int)).map (i::·)=_;rw [o3 r];rfl
theorem CR {L:Lv}{out:List Int}(h1:L.cS=true)(hl:out.length≤160):bindM L.ev "row" (.list (out.map .int),.own) {}=.ok (L.ax "row" .row).ev ⟨some out,none⟩:=by
 show (if (L.cS&&decide (("row":Str)="row"))=true then (match intsOf (out.map .int) with
    |some r=>if (none:Option (List Int)).isNone=true∧r.length≤aq then Res.ok (L.ev.ax "row" .row) ⟨some r,none⟩ else .stuck
    |none=>.stuck) else _)=_
 rw [h1,if_pos (show (true&&decide (("row":Str)="row"))=true by rw [dT rfl];rfl),o3];show (if (none:Option (List Int)).isNone=true∧out.length≤aq then Res.ok (L.ev.ax "row" .row) ⟨some out,none⟩ else .stuck)=_;rw [if_pos ⟨rfl,Nat.le_trans hl (by decide)⟩,Lv.cj]
noncomputable def mD:Fn:=(fnOf "law").getD ⟨[],[]⟩
theorem ur:fnOf "law"=some mD:=by kernel_rfl
theorem xR {d:Nat}{a t:T}{kd:Kd}{E:Ev}{s s':Sg}(h:ak (ae d) mD.body (Lf "law" [some a] []).ev s=.ok (.ret t kd,E) s'):ae (d+1) "law" [a] s=.ok (t,kd) s':=by
 have e:ae (d+1) "law" [a]=fF (ae d) true mD [a]:=by
  show (match fnOf "law" with|some fn=>fF (ae d) (decide (("law":Str)="law")) fn [a]|none=>stuck)=_;rw [ur];rfl
 rw [e];unfold fF;rw [if_pos (by kernel_rfl)]
 have q:({loc:=gj mD.params [a],mv:=ew mD.body,cS:=true}:Ev)=(Lf "law" [some a] []).ev:=by
  unfold Lf;rw [ur];exact congrArg (fun l=>({loc:=l,mv:=ew mD.body,cS:=true}:Ev)) (rC mD.params [a] _ (by kernel_rfl)).symm
 rw [q];exact bf h
theorem xS:mD.body=(jD "law" []).take 1++(jD "law" []).drop 1:=by kernel_rfl
section
variable (d:Nat)(aK out:List Int)(hr:bB out)(hl:out.length≤160)(e0:ae (d+15) "_law_row" [.list (aK.map .int)] {}=.ok (.list (out.map .int),.own) {})
include hl e0
theorem Lx:ak (ae (d+15)) ((jD "law" []).take 1) (Lf "law" [some (.list (aK.map .int))] []).ev {}=.ok (.next,(Lf "law" [some (.list (aK.map .int)),some .row] []).ev) ⟨some out,none⟩:=by
 have e:ak (ae (d+15)) ((jD "law" []).take 1) (Lf "law" [some (.list (aK.map .int))] []).ev {}=(((ae (d+15) "_law_row" [.list (aK.map .int)]>>=fun t=>solid t>>=fun t=>bindM (Lf "law" [some (.list (aK.map .int))] []).ev "row" t>>=fun L'=>(pure (Out.next,L'):M (Out×Ev)))>>=fun q=>match q with|(.next,L')=>(pure (Out.next,L'):M (Out×Ev))|o=>pure o):M (Out×Ev)) {}:=by kernel_rfl
 refine Eq.trans e ?_;refine (bf (s':=⟨some out,none⟩) (a:=(Out.next,((Lf "law" [some (.list (aK.map .int))] []).ax "row" .row).ev)) ?_).trans (by kernel_rfl);exact (bf e0).trans ((bf (a:=(T.list (out.map .int),Kd.own)) (s':={}) rfl).trans (bf (CR (by kernel_rfl) hl)))
include hr
theorem FQ {x:Int}{r1:List Int}(gf:bB r1)(e1:ae (d+15) "_law_next" [.row] (gw out none)=.ok (.int x,.val) (gw r1 none))(m1:∀s,ay (dy .Mod (.int x) (.int 6)) s=.ok (.int (5:Nat),.val) s):∃s',ae (d+16) "law" [.list (aK.map .int)] {}=.ok (.bool true,.val) s':=by
 obtain ⟨x3,r3,j,uA,hj,e3,m3⟩:=draw (d+14) none 5 (by decide) r1 gf;obtain ⟨L',s',q⟩:=l6 d (.list (aK.map .int)) ((List.range' 0 (1+j)).map fun i:Nat=>T.int (i:Int)) r3 none (fun _=>none) uA;exact ⟨s',xR (xS▸cm (Lx d aK out hl e0) (aV (L':=bA (gI "law" [] 6 []) L') (.c 0 e1 <| .p "+" 0 m1 <| .c 0 e3 <| .p "+" 0 m3 <| .l 0 (aQ (n:=1+j) (by lia)) <| .o "for" 0 q .nil) (by kernel_rfl)))⟩
noncomputable def Jn (k:Str):T:=if k="list" then .null else .none
theorem i9 {x:Int}{r1:List Int}(gf:bB r1)(e1:ae (d+15) "_law_next" [.row] (gw out none)=.ok (.int x,.val) (gw r1 none)){j:Nat}(m1:∀s,ay (dy .Mod (.int x) (.int 6)) s=.ok (.int j,.val) s){k:Str}(hk:k∈(["integer","double","character","logical","list"]:List Str))(hi:∀s,ie (.list [.str "integer",.str "double",.str "character",.str "logical",.str "list",.str "NULL"]) (.int (j:Int)) s=.ok (.str k,.val) s):∃s',ae (d+16) "law" [.list (aK.map .int)] {}=.ok (.bool true,.val) s':=by
 have hN:decide (k="NULL")=false:=dF (by
  simp only [List.mem_cons,List.not_mem_nil,or_false] at hk;rcases hk with rfl|rfl|rfl|rfl|rfl<;>decide +kernel)
 obtain ⟨x2,r2,n,jU,hn,e2,m2⟩:=draw (d+14) none 9 (by decide) r1 gf;have hn:n < 9:=Int.ofNat_lt.mp hn;obtain ⟨x3,r3,j3,uA,Ra,e3,m3⟩:=draw (d+14) (some ⟨k,List.replicate n (Jn k),none,0⟩) 5 (by decide) r2 jU
 have q:=comp_map (G:=ae (d+15)) (L:=(Lf "law" [some (.list (aK.map .int)),some .row,some (.str k),some (.int n)] []).ev) (e:=gI "law" [] 3 [0,2,2]) (l:=(List.range' 0 n).map fun i:Nat=>T.int (i:Int)) (k:=.val) (s:=gw r2 none) (by kernel_rfl) uy (fun _=>Jn k) (fun _ _=>by kernel_rfl) fun t ht=>.v (by
  unfold Jn;by_cases hq:k="list"
  ·rw [if_pos hq];exact eC (.t 0 (dT hq) .nil) (by kernel_rfl)
  ·rw [if_neg hq];exact eC (.t 0 (dF hq) .nil) (by kernel_rfl))
 rw [List.map_map,show ((fun _=>Jn k) ∘ fun i:Nat=>T.int (i:Int))=fun _=>Jn k from rfl,List.map_const',List.length_range'] at q
 have I:zr k n (List.replicate n (Jn k)) none [] 0:=
  ⟨⟨hk,List.length_replicate,Nat.le_of_lt_succ hn,by decide,List.nodup_nil,.inl rfl⟩,(fun y t h=>(bR h)),⟨List.nodup_nil,fun y=>rfl,by decide,.inl rfl⟩,Nat.le_refl _,Nat.le_refl _,fun hk t ht=>by rw [List.eq_of_mem_replicate ht];exact if_pos hk⟩
 obtain ⟨L',s',w⟩:=uq d (.list (aK.map .int)) ((List.range' 0 (1+j3)).map fun i:Nat=>T.int (i:Int)) none [] 0 0 r3 none (fun _=>none) I (by rw [List.length_map,List.length_range'];lia) uA;exact ⟨s',xR (xS▸cm (Lx d aK out hl e0) (aV (L':=bA (gI "law" [] 6 []) L') (.c 0 e1 <| .p "+" 0 m1 <| .p "i" 0 hi <| .t 0 hN <| .c 0 e2 <| .p "+" 0 m2 <| .t 0 hN <| .l 0 (aQ (n:=n) (Nat.lt_trans hn (by decide))) <| .v "[]" 0 q <| .c 0 e3 <| .p "+" 0 m3 <| .l 0 (aQ (n:=1+j3) (by lia)) <| .o "for" 0 w .nil) (by kernel_rfl)))⟩
end
theorem zt (aK:List Int)(_h:aK.length≤63):∃k σ',uG aK=.ok (.bool true,k) σ':=by
 obtain ⟨out,hr,hl,e0⟩:=FD 28 {} aK;obtain ⟨x,r1,j,gf,hj,e1,m1⟩:=draw 28 none 6 (by decide) out hr;have hj:j < 6:=Int.ofNat_lt.mp hj
 suffices q:∃s',ae 30 "law" [.list (aK.map .int)] {}=.ok (.bool true,.val) s' from q.elim fun s' h=>⟨.val,s',h⟩
 rcases j with _|_|_|_|_|_|j
 ·exact i9 14 aK out hr hl e0 gf e1 m1 (k:="integer") (.head _) fun _=>by kernel_rfl
 ·exact i9 14 aK out hr hl e0 gf e1 m1 (k:="double") (.tail _ (.head _)) fun _=>by kernel_rfl
 ·exact i9 14 aK out hr hl e0 gf e1 m1 (k:="character") (.tail _ (.tail _ (.head _))) fun _=>by kernel_rfl
 ·exact i9 14 aK out hr hl e0 gf e1 m1 (k:="logical") (.tail _ (.tail _ (.tail _ (.head _)))) fun _=>by kernel_rfl
 ·exact i9 14 aK out hr hl e0 gf e1 m1 (k:="list") (.tail _ (.tail _ (.tail _ (.tail _ (.head _))))) fun _=>by kernel_rfl
 ·exact FQ 14 aK out hr hl e0 gf e1 m1
 ·exact absurd hj (Nat.not_lt.mpr (Nat.le_add_left 6 j))
end Mine.Internal
end
section
set_option tactic.hygienic true
namespace Mine.Internal
open PySem PySem.W PyProof.Rows PySem.SeqAt
noncomputable def OA:Str:="law"++".<locals>."++"<lambda>"
noncomputable def ja (w:World)(h:Heap)(mg mb:Str→Option Value):Cx:=
 {w:=w,base:=kF (fun a=>a=495) h,mg:=mg,mb:=mb,vec:=196,nul:=167,exc:=51,K:=KK w.params,dB:=mV,jc:=OA,code:=497,tab:=495}
noncomputable def GU (q:Str):Option Value→Bool
 |some v=>(match v with
  |.str q' _=>q' == q
  |_=>false)
 |none=>false
theorem zu {q:Str}{v:Option Value}(h:GU q v=true):∃t,v=some (.str q t):=by
 cases v with
 |none=>exact d9 h
 |some v=>cases v with
  |str q' t=>cases eq_of_beq (show (q' == q)=true from h);exact ⟨t,rfl⟩
  |_=>exact d9 h
noncomputable def Ly:PySem.Data→Option (Array Value)
 |.fields vs=>some vs
 |_=>none
theorem CS {d:PySem.Data}{vs:Array Value}(h:Ly d=some vs):d=.fields vs:=by
 cases d with
 |fields=>cases Option.some.inj h;rfl
 |_=>exact bR h
noncomputable def LA:PySem.Data→Option FuncData
 |.func fd=>some fd
 |_=>none
theorem CT {d:PySem.Data}{fd:FuncData}(h:LA d=some fd):d=.func fd:=by
 cases d with
 |func=>cases Option.some.inj h;rfl
 |_=>exact bR h
noncomputable def IZ:Value→Option Addr
 |.ref a=>some a
 |_=>none
theorem uu {v:Value}{a:Addr}(h:IZ v=some a):v=.ref a:=by
 cases v with
 |ref=>cases Option.some.inj h;rfl
 |_=>exact bR h
noncomputable def jq (K:Frag)(cd:Value)(q:Str):Bool:=GU q ((IZ cd).bind fun a=>(K.lookup a).bind fun o=>(Ly o.data).bind fun vs=>vs[1]?)
theorem codeRec_of {K:Frag}{h:Heap}{cd:Value}{q:Str}(X:K.In h)(e:jq K cd q=true):h.CodeRec cd q:=by
 obtain ⟨t,e⟩:=zu e;obtain ⟨a,h1,e⟩:=Option.bind_eq_some_iff.mp e;obtain ⟨o,h2,e⟩:=Option.bind_eq_some_iff.mp e;obtain ⟨vs,h3,e⟩:=Option.bind_eq_some_iff.mp e;exact ⟨a,o,vs,t,uu h1,X _ _ h2,CS h3,e⟩
noncomputable def eV (K:Frag)(a:Addr):Option FuncData:=(K.lookup a).bind fun o=>LA o.data
theorem rO {K:Frag}{h:Heap}{a:Addr}{fd:FuncData}(X:K.In h)(e:eV K a=some fd):∃o,h.get? a=some o∧o.data=.func fd:=by
 obtain ⟨o,h1,e⟩:=Option.bind_eq_some_iff.mp e;exact ⟨o,X _ _ h1,CT e⟩
noncomputable def xT (K:Frag)(n:Str):Option Addr:=((nsIn K mainGlobals n).bind id).bind IZ
theorem zv {K:Frag}{n:Str}{a:Addr}(h:xT K n=some a):nsIn K mainGlobals n=some (some (.ref a)):=by
 obtain ⟨v,h1,e⟩:=Option.bind_eq_some_iff.mp h;obtain ⟨w,h2,h3⟩:=Option.bind_eq_some_iff.mp h1;rw [h2,show w=some v from h3,uu e]
noncomputable def ib (K:Frag)(n:Str):Addr:=(xT K n).getD 0
noncomputable def Rk (K:Frag)(n:Str):Bool:=(xT K n).isSome&&(eV K (ib K n)).any fun fd=>keepIn K (.ref (ib K n))&&((fd.globals == mainGlobals)&&(fd.closure.isEmpty&&((fd.builtins == builtinsNs)&&jq K fd.code fd.qualname)))
noncomputable def LB (K:Frag)(n:Str):Setting→(Nat→Value)→Option (List (Str×Value)):=fun S v=>(eV K (ib K n)).bind fun fd=>(defOf n).bind fun I=>PySem.W.peek K S (bindArgs fd ⟨(List.range I.params.length).map v,[]⟩)
noncomputable def bindG (n:Str):Setting→(Nat→Value)→Option (List (Str×Value)):=fun _ v=>(defOf n).map fun I=>I.params.zip ((List.range I.params.length).map v)
section
variable (P:Params)
theorem FT:(defNames.map (Rk (KK P)))=defNames.map fun _=>true:=by kernel_rfl
theorem CU:(defNames.map fun n=>(eV (KK P) (ib (KK P) n)).map fun fd=>(fd.body,fd.scope))=defNames.map fun n=>(defOf n).map fun I=>(FuncBody.stmts I.body,I.scope):=by kernel_rfl
theorem CV:defNames.map (LB (KK P))=defNames.map bindG:=by kernel_rfl
theorem law_code:(eV (KK P) (ib (KK P) "law")).map (fun fd=>(fd.code,fd.qualname))=some (Value.ref 497,("law":Str)):=by kernel_rfl
end
end Mine.Internal
end
section
set_option tactic.hygienic true
namespace Mine.Internal
open PySem PySem.W PyProof.Rows PySem.SeqAt
section
variable {w:World}{h:Heap}{mg mb:Str→Option Value}
theorem l7 (X:(KK w.params).In h):(KK w.params).In (kF (fun a=>a=495) h):=by
 intro a o e;rw [cZ]
 ·exact X a o e
 ·rintro rfl
  have:(KK w.params).lookup 495=none:=by kernel_rfl
  rw [this] at e;cases e
theorem wy (ht:h.get? 495=some (tabObj #[])){a:Addr}{m:Str→Option Value}(n:h.Ns a m):(kF (fun a=>a=495) h).Ns a m:=by
 obtain ⟨o,es,ep,q1,q2,q3⟩:=n;refine ⟨o,es,ep,?_,q2,q3⟩;rw [cZ]
 ·exact q1
 ·rintro rfl
  rw [ht] at q1;cases q1;cases q2
theorem range_getD (vs:List Value):(List.range vs.length).map (fun i=>vs.getD i .none)=vs:=by
 apply List.ext_getElem?;intro i;rw [List.getElem?_map];by_cases hi:i < vs.length
 ·rw [List.getElem?_range hi];simp [List.getD,hi]
 ·rw [List.getElem?_eq_none (by simpa using hi),List.getElem?_eq_none (by lia)];rfl
theorem FU (X:(KK w.params).In h)(ht:h.get? 495=some (tabObj #[]))(g:h.Ns mainGlobals mg):BN (ja w h mg mb):=by
 constructor;intro n I hI;have hn:=rj _ hI;have X':=l7 X;have b1:=List.map_inj_left.mp (FT w.params) n hn;have b2:=List.map_inj_left.mp (CU w.params) n hn;have b3:=List.map_inj_left.mp (CV w.params) n hn;obtain ⟨c0,b1⟩:=Bool.and_eq_true_iff.mp b1;obtain ⟨a,ha⟩:=Option.isSome_iff_exists.mp c0
 cases hf:eV (KK w.params) (ib (KK w.params) n) with
 |none=>rw [hf] at b1;exact d9 b1
 |some fd=>
  rw [hf] at b1;obtain ⟨c1,b1⟩:=Bool.and_eq_true_iff.mp b1;obtain ⟨c2,b1⟩:=Bool.and_eq_true_iff.mp b1;obtain ⟨c3,b1⟩:=Bool.and_eq_true_iff.mp b1;obtain ⟨c4,c5⟩:=Bool.and_eq_true_iff.mp b1;rw [hf,hI] at b2;have b2:=Option.some.inj b2;have LC:ib (KK w.params) n=a:=by show (xT (KK w.params) n).getD 0=a;rw [ha];rfl
  obtain ⟨o,ho,hd⟩:=rO X' hf;refine ⟨ib (KK w.params) n,fd.code,fd.qualname,?_,c1,⟨o,fd,ho,hd,congrArg Prod.fst b2,congrArg Prod.snd b2,eq_of_beq c2,List.isEmpty_iff.mp c3,eq_of_beq c4,codeRec_of X' c5,rfl,rfl,?_⟩,?_⟩
  ·rw [LC];exact mg_of X g (zv ha)
  ·intro s vals kp hl
   have b4:∀S,PySem.W.peek (KK w.params) S (bindArgs fd ⟨vals,[]⟩)=some (I.params.zip vals):=fun S=>by
    have q:(eV (KK w.params) (ib (KK w.params) n)).bind _=(defOf n).map _:=congrFun (congrFun b3 S) fun i=>vals.getD i .none
    rw [hf,hI] at q;have q:PySem.W.peek (KK w.params) S (bindArgs fd ⟨(List.range I.params.length).map fun i=>vals.getD i .none,[]⟩)=some (I.params.zip ((List.range I.params.length).map fun i=>vals.getD i .none)):=q;rw [←hl,range_getD] at q;exact q
   exact kp_binds (X'.keeps kp) b4
  ·rintro rfl
   have q:=law_code w.params;rw [hf] at q;have q:=Option.some.inj q;exact ⟨congrArg Prod.fst q,by rw [show fd.qualname=_ from congrArg Prod.snd q];rfl⟩
theorem o4 {K:Frag}{C:Addr}(e:(clsIn K C).any (·.hasDict)=true):∃cd,clsIn K C=some cd∧cd.hasDict=true:=by
 cases q:clsIn K C with
 |none=>rw [q] at e;cases e
 |some cd=>rw [q] at e;exact ⟨cd,rfl,e⟩
theorem eH {α β:Type}{f g:α→β}{l:List α}(e:l.map f=l.map g):∀x∈l,f x=g x:=List.map_inj_left.mp e
theorem CW (X:(KK w.params).In h)(ht:h.get? 495=some (tabObj #[]))(g:h.Ns mainGlobals mg)(b:h.Ns builtinsNs mb)(nl:h.NoLimit)(bt:∀x:Str,x≠"__name__"→mb x=bootBuiltins x):Facts (ja w h mg mb):=by
 refine ⟨l7 X,⟨?_,?_,?_⟩,⟨?_,?_,?_⟩,?_,?_,?_,?_,?_,?_,?_,wy ht g,wy ht b,?_,?_⟩
 ·show findIn (KK w.params) (.ref 196) "__getattribute__"=_;kernel_rfl
 ·exact o4 (show (clsIn (KK w.params) 196).any (·.hasDict)=true by kernel_rfl)
 ·exact eH (show (["kind","items","attrs","shared","loose"]:List Str).map (fun n=>findIn (KK w.params) (.ref 196) n)=(["kind","items","attrs","shared","loose"]:List Str).map fun _=>some none by kernel_rfl)
 ·show findIn (KK w.params) (.ref 167) "__getattribute__"=_;kernel_rfl
 ·exact o4 (show (clsIn (KK w.params) 167).any (·.hasDict)=true by kernel_rfl)
 ·exact eH (show (["kind","attrs"]:List Str).map (fun n=>findIn (KK w.params) (.ref 167) n)=(["kind","attrs"]:List Str).map fun _=>some none by kernel_rfl)
 ·show isIn (KK w.params) (.ref 196) 196=true;kernel_rfl
 ·show kin_not (KK w.params) 167 196=true;kernel_rfl
 ·intro C hC;have hC:C=196∨C=167:=by have hC:C∈([196,167]:List Addr):=hC;simpa using hC
  rcases hC with rfl|rfl
  ·refine ⟨?_,?_,?_,?_,?_⟩
   ·show kin_notT (KK w.params) 196 "str"=true;kernel_rfl
   ·show plainGet (KK w.params) 196 "__class__"=true;kernel_rfl
   ·show hasDictIn (KK w.params) 196=true;kernel_rfl
   ·show findIn (KK w.params) (.ref 196) "__class__"=some (some (.builtin "object.__class__"));kernel_rfl
   ·show mroIn (KK w.params) 196 (.type "object")=some true;kernel_rfl
  ·refine ⟨?_,?_,?_,?_,?_⟩
   ·show kin_notT (KK w.params) 167 "str"=true;kernel_rfl
   ·show plainGet (KK w.params) 167 "__class__"=true;kernel_rfl
   ·show hasDictIn (KK w.params) 167=true;kernel_rfl
   ·show findIn (KK w.params) (.ref 167) "__class__"=some (some (.builtin "object.__class__"));kernel_rfl
   ·show mroIn (KK w.params) 167 (.type "object")=some true;kernel_rfl
 ·show specialIn (KK w.params) (.builtin "object.__class__") "__get__"=some (some (.builtin "getset_descriptor.__get__"));kernel_rfl
 ·show takesIn (KK w.params) (.builtin "object.__class__")=some true;kernel_rfl
 ·exact mg_of X g (show nsIn (KK w.params) mainGlobals "Vector"=some (some (.ref 196)) by kernel_rfl)
 ·intro p hp;have n1:=eH (show bF.map (fun p=>nsIn (KK w.params) mainGlobals p.1)=bF.map fun _=>some none by kernel_rfl) p hp;have n2:=eH (show bF.map (fun p=>bootBuiltins p.1)=bF.map fun p=>some p.2 by kernel_rfl) p hp
  have n3:p.1≠"__name__":=by
   have:=eH (show bF.map (fun p=>p.1 == ("__name__":Str))=bF.map fun _=>false by kernel_rfl) p hp;simpa using this
  exact ⟨mg_none_of X g n1,(bt _ n3).trans n2⟩
 ·obtain ⟨mc,q1,q2⟩:=nl;exact ⟨mc,wy ht q1,q2⟩
 ·exact ⟨388,mg_of X g (show nsIn (KK w.params) mainGlobals "MOST_LENGTH"=some (some (.int 1000000 388)) by kernel_rfl)⟩
end
end Mine.Internal
end
section
set_option tactic.hygienic true
namespace Mine.Internal
open PySem PySem.W PyProof.Rows PySem.SeqAt PySem.Builtin PySem.Builtin.ObjectAttr
theorem CX {n:Str}{es:List DictEntry}{v:Value}(h:getL n es=some (some v)):∃en,es.find? (·.key.isStr n)=some en∧en.val=v:=by
 unfold getL at h
 cases q:es.find? (·.key.isStr n) with
 |some en=>rw [q] at h;exact ⟨en,rfl,Option.some.inj (Option.some.inj h)⟩
 |none=>
  rw [q] at h;by_cases k:es.any (·.refKey)=true
  ·exact bR ((if_pos k).symm.trans h)
  ·exact bR (Option.some.inj ((if_neg k).symm.trans h))
theorem FV {K:Frag}{h:Heap}{N:Addr}{m:Str→Option Value}{n:Str}{v:Value}(X:K.In h)(G:h.Ns N m)(e:nsIn K N n=some (some v)):m n=some v:=by
 obtain ⟨o,es,ep,ho,hd,_,hf⟩:=G;unfold nsIn at e
 cases q:K.lookup N with
 |none=>rw [q] at e;exact bR e
 |some o'=>
  obtain ⟨c,d,da,sl⟩:=o';cases ho.symm.trans (X _ _ q);cases hd;rw [q] at e;obtain ⟨en,he,hv⟩:=CX (show getL n es.toList=some (some v) from e);rw [←hf];unfold nsFind findBy;rw [←Array.find?_toList,he];exact congrArg some hv
noncomputable def gy (n:Str):mJ:=(PySem.Challenge.pw_nz0494_01.main.body.findSome? (HP n)).getD ⟨[],[],default⟩
noncomputable def LD:List (Str×IE):=[("kind",.name "kind"),("items",.name "items"),("attrs",.name "attrs"),("shared",.bool false),("loose",.bool false)]
noncomputable def LF:List (Str×IE):=[("kind",.str "NULL"),("attrs",.none)]
noncomputable def Rl:IE→Option Str
 |.name x=>some x
 |_=>none
theorem GV {as:List (Str×IE)}{ns:List Str}(h:as.all (fun p=>(Rl p.2).all fun y=>decide (y∈ns))=true):∀p∈as,∀y,p.2=.name y→y∈ns:=fun p hp y hy=>by
 have q:=List.all_eq_true.mp h p hp;rw [hy] at q;exact of_decide_eq_true q
theorem zw:pU (gy "Vector") ["self","kind","items","attrs"] LD:=by
 refine ⟨by kernel_rfl,by kernel_rfl,by kernel_rfl,?_,?_,by kernel_rfl,by decide +kernel,?_,by simp,by decide +kernel⟩
 ·exact fun x hx=>by
   have:=eH (show (gy "Vector").scope.names.map (fun x=>x.2 == .cell)=(gy "Vector").scope.names.map fun _=>false by kernel_rfl) x hx;simpa using this
 ·exact eH (show (["self","kind","items","attrs"]:List Str).map (fun x=>(gy "Vector").scope.names.lookup x)=(["self","kind","items","attrs"]:List Str).map fun _=>some .local by kernel_rfl)
 ·exact GV (by decide +kernel)
theorem zx:pU (gy "Null") ["self"] LF:=by
 refine ⟨by kernel_rfl,by kernel_rfl,by kernel_rfl,?_,?_,by kernel_rfl,by decide +kernel,?_,by simp,by decide +kernel⟩
 ·exact fun x hx=>by
   have:=eH (show (gy "Null").scope.names.map (fun x=>x.2 == .cell)=(gy "Null").scope.names.map fun _=>false by kernel_rfl) x hx;simpa using this
 ·exact eH (show (["self"]:List Str).map (fun x=>(gy "Null").scope.names.lookup x)=(["self"]:List Str).map fun _=>some .local by kernel_rfl)
 ·exact GV (by decide +kernel)
noncomputable def dj (K:Frag)(C:Addr):ClassData:=match clsIn K C with
 |some cd=>cd
 |none=>default
section
variable {w:World}{h:Heap}{mg mb:Str→Option Value}
theorem wz {K:Frag}{C:Addr}{ns:List Str}(h1:findIn K (.ref C) "__setattr__"=some (some (.builtin "object.__setattr__")))(h2:clsIn K C=some (dj K C))(h3:(dj K C).hasDict=true)(h4:(dj K C).mro.isEmpty=false)
  (h5:(dj K C).mro.contains (.type "object")=true) (h6:(fun self=>refuseLoop self "__setattr__" (dj K C).mro)=fun _=>pure ()) (h7:ns.map (fun n=>takerIn K C n)=ns.map fun _=>some none):C5 K C ns:=
 ⟨h1,⟨_,h2,h3,h4,h5,fun self=>congrFun h6 self⟩,eH h7⟩
theorem xU {C:Addr}{k:Nat}{fI:Addr}{I:mJ}{binds:Value→List Value→List (Str×Value)}(X:(KK w.params).In h)(hC:findIn (KK w.params) (.ref C) "__init__"=some (some (.ref fI)))(ht:typeIn (KK w.params) (.ref fI)=some (.type "function"))
  (hf:(eV (KK w.params) fI).map (fun fd=>(fd.body,fd.scope,fd.globals,fd.closure,fd.builtins,jq (KK w.params) fd.code fd.qualname))=some (.stmts I.body,I.scope,mainGlobals,[],builtinsNs,true))
  (hb:∀fd,eV (KK w.params) fI=some fd→∀S x vals,vals.length=k→PySem.W.peek (KK w.params) S (bindArgs fd ⟨x::vals,[]⟩)=some (binds x vals)):q0 (ja w h mg mb) I C k binds:=by
 have X':=l7 X
 cases q:eV (KK w.params) fI with
 |none=>rw [q] at hf;cases hf
 |some fd=>
  rw [q] at hf;simp only [Option.map_some,Option.some.injEq,Prod.mk.injEq] at hf;obtain ⟨f1,f2,f3,f4,f5,f6⟩:=hf;obtain ⟨o,ho,hd⟩:=rO X' q;exact ⟨fI,o,fd,hC,ht,ho,hd,f1,f2,f3,f4,f5,codeRec_of X' f6,fun s x vals kp hl=>kp_binds (X'.keeps kp) (fun S=>hb fd q S x vals hl)⟩
noncomputable def eW (K:Frag)(C:Addr):Addr:=match findIn K (.ref C) "__init__" with
 |some (some (.ref a))=>a
 |_=>0
theorem CY (P:Params):(fun (S:Setting) (x a b:Value)=>(eV (KK P) (eW (KK P) 196)).bind fun fd=>PySem.W.peek (KK P) S (bindArgs fd ⟨[x,a,b],[]⟩))=fun _ x a b=>some [(("self":Str),x),(("kind":Str),a),(("items":Str),b),(("attrs":Str),Value.none)]:=by kernel_rfl
theorem CZ (P:Params):(fun (S:Setting) (x:Value)=>(eV (KK P) (eW (KK P) 167)).bind fun fd=>PySem.W.peek (KK P) S (bindArgs fd ⟨[x],[]⟩))=fun _ x=>some [(("self":Str),x)]:=by kernel_rfl
theorem I0 (X:(KK w.params).In h)(g:h.Ns mainGlobals mg):d5 (ja w h mg mb):=by
 refine ⟨?_,?_,wz ?_ ?_ ?_ ?_ ?_ ?_ ?_,wz ?_ ?_ ?_ ?_ ?_ ?_ ?_,⟨gy "Vector",xU (fI:=eW (KK w.params) 196) X ?_ ?_ ?_ ?_,zw⟩,⟨gy "Null",xU (fI:=eW (KK w.params) 167) X ?_ ?_ ?_ ?_,zx⟩,?_,?_,?_⟩
 ·show makesIn (KK w.params) 196=true;kernel_rfl
 ·show makesIn (KK w.params) 167=true;kernel_rfl
 ·show findIn (KK w.params) (.ref 196) "__setattr__"=_;kernel_rfl
 ·show clsIn (KK w.params) 196=some (dj (KK w.params) 196);kernel_rfl
 ·show (dj (KK w.params) 196).hasDict=true;kernel_rfl
 ·show (dj (KK w.params) 196).mro.isEmpty=false;kernel_rfl
 ·show (dj (KK w.params) 196).mro.contains (.type "object")=true;kernel_rfl
 ·show (fun self=>refuseLoop self "__setattr__" (dj (KK w.params) 196).mro)=fun _=>pure ();kernel_rfl
 ·show (["kind","items","attrs","shared","loose"]:List Str).map (fun n=>takerIn (KK w.params) 196 n)=_;kernel_rfl
 ·show findIn (KK w.params) (.ref 167) "__setattr__"=_;kernel_rfl
 ·show clsIn (KK w.params) 167=some (dj (KK w.params) 167);kernel_rfl
 ·show (dj (KK w.params) 167).hasDict=true;kernel_rfl
 ·show (dj (KK w.params) 167).mro.isEmpty=false;kernel_rfl
 ·show (dj (KK w.params) 167).mro.contains (.type "object")=true;kernel_rfl
 ·show (fun self=>refuseLoop self "__setattr__" (dj (KK w.params) 167).mro)=fun _=>pure ();kernel_rfl
 ·show (["kind","attrs"]:List Str).map (fun n=>takerIn (KK w.params) 167 n)=_;kernel_rfl
 ·show findIn (KK w.params) (.ref 196) "__init__"=some (some (.ref (eW (KK w.params) 196)));kernel_rfl
 ·show typeIn (KK w.params) (.ref (eW (KK w.params) 196))=some (.type "function");kernel_rfl
 ·kernel_rfl
 ·intro fd q S x vals hl
  obtain ⟨a,b,rfl⟩:∃a b,vals=[a,b]:=by
   rcases vals with _|⟨a,_|⟨b,_|⟨_,_⟩⟩⟩<;>first|exact ⟨_,_,rfl⟩|(simp at hl)
  have e:=congrFun (congrFun (congrFun (congrFun (CY w.params) S) x) a) b;rw [q] at e;exact e
 ·show findIn (KK w.params) (.ref 167) "__init__"=some (some (.ref (eW (KK w.params) 167)));kernel_rfl
 ·show typeIn (KK w.params) (.ref (eW (KK w.params) 167))=some (.type "function");kernel_rfl
 ·kernel_rfl
 ·intro fd q S x vals hl;have:vals=[]:=List.length_eq_zero_iff.mp hl;subst this;have e:=congrFun (congrFun (CZ w.params) S) x;rw [q] at e;exact e
 ·exact mg_of X g (show nsIn (KK w.params) mainGlobals "Null"=some (some (.ref 167)) by kernel_rfl)
 ·show keepIn (KK w.params) (.ref 196)=true;kernel_rfl
 ·show keepIn (KK w.params) (.ref 167)=true;kernel_rfl
end
end Mine.Internal
end
section
set_option tactic.hygienic true
namespace Mine.Internal
open PySem PySem.W PyProof.Rows PySem.SeqAt PySem.Builtin PySem.Builtin.ObjectAttr
section
variable {w:World}{h:Heap}{mg mb:Str→Option Value}
noncomputable def C0:FuncBody:=.stmts [.Try [.Return (some (.Call (.Name "ask" ⟨465,15,465,18⟩) [] [] ⟨465,15,465,20⟩)) ⟨465,8,465,20⟩]
 [.ExceptHandler (some (.Name "Refusal" ⟨466,11,466,18⟩)) (some "error") [.Return (some (.Attribute (.Name "error" ⟨467,15,467,20⟩) "message" ⟨467,15,467,28⟩)) ⟨467,8,467,28⟩] ⟨466,4,467,28⟩] [] [] ⟨464,4,467,28⟩]
noncomputable def FW:FuncBody:=.stmts [.Assign [.Attribute (.Name "self" ⟨10,8,10,12⟩) "message" ⟨10,8,10,20⟩] (.Name "message" ⟨10,23,10,30⟩) ⟨10,8,10,30⟩]
noncomputable def rP (K:Frag)(a:Addr):Option (FuncBody×List (Str×NameKind)×Bool×Addr×List (Str×Addr)×Addr×Bool):=
 (eV K a).map fun fd=>(fd.body,fd.scope.names,(fd.scope.kind == .function&&!fd.scope.isCoroutine&&!fd.scope.isGenerator),fd.globals,fd.closure,fd.builtins,jq K fd.code fd.qualname)
theorem zy (P:Params):(fun (x v:Value)=>(eV (KK P) 48).map fun fd=>bindArgs fd ⟨[x,v],[]⟩)=fun x v=>some (pure [(("self":Str),x),(("message":Str),v)]):=by kernel_rfl
theorem wA (P:Params):(fun (v:Value)=>(eV (KK P) 454).map fun fd=>bindArgs fd ⟨[v],[]⟩)=fun v=>some (pure [(("ask":Str),v)]):=by kernel_rfl
theorem I1 (X:(KK w.params).In h)(g:h.Ns mainGlobals mg):dt (ja w h mg mb):=by
 have X':=l7 X;have hf:rP (KK w.params) 48=some (FW,([("self",.local),("message",.local)]:List (Str×NameKind)),true,mainGlobals,([]:List (Str×Addr)),builtinsNs,true):=by kernel_rfl
 refine ⟨?_,wz ?_ ?_ ?_ ?_ ?_ ?_ ?_,?_,?_⟩
 ·unfold rP at hf
  cases q:eV (KK w.params) 48 with
  |none=>rw [q] at hf;cases hf
  |some fd=>
   rw [q] at hf;simp only [Option.map_some,Option.some.injEq,Prod.mk.injEq,Bool.and_eq_true,Bool.not_eq_true',beq_iff_eq] at hf;obtain ⟨f1,f2,⟨⟨f3,f4⟩,f5⟩,f6,f7,f8,f9⟩:=hf;obtain ⟨o,ho,hd⟩:=rO X' q;have Gu:(kF (fun a=>a=495) h).isNs 50=true:=isNs_of_in X' (by kernel_rfl);have G:=Heap.Ns.of_isNs Gu;refine .mk "Refusal" "Refusal" 50 [.ref 31] [.ref 31,.type "Exception",.type "BaseException",.type "object"] [] [] false none none (some (.ref 35)) none (some (.str "Refusal" 216)) (some (.str "Refusal" 224)) (some (.bool true)) _ 48 o fd (X' 51 _ ?_) (tail_of_in X' ?_) ?_ G (FV X' G ?_) ?_ ⟨ho,hd,⟨_,_,_,_,f1⟩,f3,f4,f5,?_,?_,?_,f6,f7,f8,codeRec_of X' f9,fun s x v=>BindsTo.of_eq ?_⟩
   ·kernel_rfl
   ·kernel_rfl
   ·kernel_rfl
   ·kernel_rfl
   ·show typeIn (KK w.params) (.ref 48)=some (.type "function");kernel_rfl
   ·intro x hx;rw [f2] at hx;simp only [List.mem_cons,List.mem_nil_iff,or_false] at hx;rcases hx with rfl|rfl<;>simp
   ·rw [f2];kernel_rfl
   ·rw [f2];kernel_rfl
   ·have e:=congrFun (congrFun (zy w.params) x) v;rw [q] at e;exact Option.some.inj e
 ·show findIn (KK w.params) (.ref 51) "__setattr__"=_;kernel_rfl
 ·show clsIn (KK w.params) 51=some (dj (KK w.params) 51);kernel_rfl
 ·show (dj (KK w.params) 51).hasDict=true;kernel_rfl
 ·show (dj (KK w.params) 51).mro.isEmpty=false;kernel_rfl
 ·show (dj (KK w.params) 51).mro.contains (.type "object")=true;kernel_rfl
 ·show (fun self=>refuseLoop self "__setattr__" (dj (KK w.params) 51).mro)=fun _=>pure ();kernel_rfl
 ·show (["message"]:List Str).map (fun n=>takerIn (KK w.params) 51 n)=_;kernel_rfl
 ·exact mg_of X g (show nsIn (KK w.params) mainGlobals "Refusal"=some (some (.ref 51)) by kernel_rfl)
 ·show keepIn (KK w.params) (.ref 51)=true;kernel_rfl
theorem I3:jR (ja w h mg mb):=by
 refine ⟨?_,?_,?_,dj (KK w.params) 51,?_,?_,?_,?_⟩
 ·show findIn (KK w.params) (.ref 51) "__getattribute__"=some (some (.builtin "BaseException.__getattribute__"));kernel_rfl
 ·show findIn (KK w.params) (.ref 51) "__getattr__"=some none;kernel_rfl
 ·show findIn (KK w.params) (.ref 51) "message"=some none;kernel_rfl
 ·show clsIn (KK w.params) 51=some (dj (KK w.params) 51);kernel_rfl
 ·kernel_rfl
 ·kernel_rfl
 ·kernel_rfl
theorem I4 (X:(KK w.params).In h)(ht:h.get? 495=some (tabObj #[]))(g:h.Ns mainGlobals mg)
  (bm:∃bm ob,mg "__builtins__"=some (.ref bm)∧bm≠builtinsNs∧h.get? bm=some ob∧ob.cls=.type "module"∧ob.dict=some builtinsNs∧ob.data=.plain):iJ (ja w h mg mb):=by
 refine ⟨codeHd_of_K (l7 X) (show codeHdIn (KK w.params) 497 495=true by kernel_rfl),?_,?_⟩
 ·obtain ⟨bm,ob,h1,h2,h3,h4,h5,h6⟩:=bm;have n1:bm≠495:=by rintro rfl;rw [ht] at h3;cases h3;cases h6
  refine ⟨bm,ob,h1,h2,?_,n1,?_,h4,h5,h6⟩
  ·rintro rfl
   obtain ⟨o,es,ep,q1,q2,_⟩:=g;rw [q1] at h3;cases h3;rw [h6] at q2;cases q2
  ·exact (cZ (S:=fun a=>a=495) n1).trans h3
 ·show (3:Nat)≠495
  decide
theorem FX (X:(KK w.params).In h)(g:h.Ns mainGlobals mg):oh (ja w h mg mb) 454:=by
 have X':=l7 X;have hf:rP (KK w.params) 454=some (C0,([("ask",.local),("error",.local),("Refusal",.globalImplicit)]:List (Str×NameKind)),true,mainGlobals,([]:List (Str×Addr)),builtinsNs,true):=by kernel_rfl
 refine ⟨mg_of X g (show nsIn (KK w.params) mainGlobals "_law_kept"=some (some (.ref 454)) by kernel_rfl),?_,?_⟩
 ·show keepIn (KK w.params) (.ref 454)=true;kernel_rfl
 ·unfold rP at hf
  cases q:eV (KK w.params) 454 with
  |none=>rw [q] at hf;cases hf
  |some fd=>
   rw [q] at hf;simp only [Option.map_some,Option.some.injEq,Prod.mk.injEq,Bool.and_eq_true,Bool.not_eq_true',beq_iff_eq] at hf;obtain ⟨f1,f2,⟨⟨f3,f4⟩,f5⟩,f6,f7,f8,f9⟩:=hf;obtain ⟨o,ho,hd⟩:=rO X' q;refine ⟨o,fd,ho,hd,⟨_,_,_,_,_,_,_,_,_,f1⟩,f3,f4,f5,?_,?_,?_,?_,f6,f7,f8,codeRec_of X' f9,fun s v=>BindsTo.of_eq ?_⟩
   ·intro x hx;rw [f2] at hx;simp only [List.mem_cons,List.mem_nil_iff,or_false] at hx;rcases hx with rfl|rfl|rfl<;>simp
   ·rw [f2];kernel_rfl
   ·rw [f2];kernel_rfl
   ·rw [f2];kernel_rfl
   ·have e:=congrFun (wA w.params) v;rw [q] at e;exact Option.some.inj e
theorem FY (prog:Program)(X:(KK w.params).In h)(ht:h.get? 495=some (tabObj #[]))(g:h.Ns mainGlobals mg)(b:h.Ns builtinsNs mb)(nl:h.NoLimit)(bt:∀x:Str,x≠"__name__"→mb x=bootBuiltins x)
  (bm:∃bm ob,mg "__builtins__"=some (.ref bm)∧bm≠builtinsNs∧h.get? bm=some ob∧ob.cls=.type "module"∧ob.dict=some builtinsNs∧ob.data=.plain):Base prog (ja w h mg mb):=
 ⟨CW X ht g b nl bt,I0 X g,FU X ht g,I1 X g,I3,I4 X ht g bm,⟨454,FX X g⟩,rfl⟩
end
end Mine.Internal
end
section
set_option tactic.hygienic true
namespace Mine.Internal
open PySem PySem.W PyProof.Rows PySem.SeqAt PySem.Builtin PySem.Builtin.ObjectAttr
section
variable {w:World}{h:Heap}{mg mb:Str→Option Value}
noncomputable def qx (h:Heap):Gh:={obj:=fun a=>(kF (fun a=>a=495) h).get? a,gk:=fun _=>none,moves:=fun a=>a=495,row:=none,self:=none,tab:=495}
theorem C1 {a:Addr}{o:Obj}(e:(kF (fun a=>a=495) h).get? a=some o):h.get? a=some o∧a≠495:=by
 by_cases q:a=495
 ·rw [g9 (S:=fun a=>a=495) q] at e;cases e
 ·rw [cZ (S:=fun a=>a=495) q] at e;exact ⟨e,q⟩
theorem fh (ht:h.get? 495=some (tabObj #[])):St (ja w h mg mb) (qx h) {} h where
 base _ _ e:=e
 obj _ _ e:=(C1 e).1
 gk _ _ e:=nomatch e
 apart a e:=by
  have e:a=495:=e;subst e;exact ⟨g9 (S:=fun a=>a=495) rfl,rfl,_,ht⟩
 apart2 _ _ e:=nomatch e
 row:=rfl
 self:=rfl
 tab:=⟨rfl,rfl,#[],ht,trivial,.inl rfl⟩
theorem wB {L:Addr}{vs:List Value}{aK:List Int}(ht:h.get? 495=some (tabObj #[]))(hw:Well w.params h (.ref L) (ofPy (.list (aK.map PyData.int))))(hl:h.IsList L vs.toArray)(hi:IntsAre vs aK)(hlen:aK.length≤63):
  az (ja w h mg mb) (qx h) [.list (aK.map .int)] [.ref L]:=by
 have key:∃n,h.get? L=some (aG vs n):=by
  obtain ⟨o,h1,h2,n,h3⟩:=hl;unfold ofPy at hw
  cases hw with
  |list e _=>
   rw [h1] at e;cases e;simp only [Data.seq.injEq] at h3;obtain ⟨h3,rfl⟩:=h3;have h3:=congrArg Array.toList h3;simp only at h3;subst h3;exact ⟨0,h1⟩
 obtain ⟨n,e⟩:=key;refine az.one (eK.mk L vs n ?_ ?_ ?_)
 ·show (kF (fun a=>a=495) h).get? L=_;rw [cZ (S:=fun a=>a=495)]
  ·exact e
  ·rintro rfl
   rw [ht] at e;cases e
 ·rw [hi.length,bC];lia
 ·clear hl hw e hlen
  induction hi with
  |nil=>exact az.nil
  |cons _ _ _ ih=>exact az.cons Rep.int ih
theorem I5 {fr:List Addr}{G':Gh}{σ':Sg}{h':Heap}(zD:fr=[])(ht:h.get? 495=some (tabObj #[]))(x:Step fr (qx h) {} h G' σ' h')(S:St (ja w h mg mb) G' σ' h'):∀b o,h.get? b=some o→h'.get? b=some o∨(b=495∧o=tabObj #[]∧∃ps,h'.get? 495=some (tabObj ps)):=by
 intro b o e;by_cases q:b=495
 ·subst q;rw [ht] at e;cases e;obtain ⟨_,q2,ps,q3,_,_⟩:=S.tab;rw [q2] at q3;exact .inr ⟨rfl,rfl,ps,q3⟩
 ·exact .inl (x.keep b o e q rfl (by rw [zD];exact List.not_mem_nil))
theorem oldK {fr:List Addr}{G':Gh}{σ':Sg}{h':Heap}(hc:CodeHd h 497 495)(zD:fr=[])(ht:h.get? 495=some (tabObj #[]))(x:Step fr (qx h) {} h G' σ' h')(S:St (ja w h mg mb) G' σ' h'):OldK h h':=by
 refine ⟨fun b o e=>?_,fun b o e=>x.alive b o e⟩;rcases I5 zD ht x S b o e with q|⟨rfl,rfl,ps,q⟩
 ·exact .inl q
 ·obtain ⟨oc,vs,_,_,_,_,_,_,_,c1,c2,c3,c4,_⟩:=hc;exact .inr (.inl ⟨⟨497,oc,vs,c1,c2,c3,c4⟩,rfl,#[],ps,rfl,by rw [q];simp⟩)
theorem I6 (ht:h.get? 495=some (tabObj #[])){s:Shared}(hs:s.heap=h):Pre (ja w h mg mb) callerA (Inv.top _) (qx h) {} s:=by
 subst hs;exact ⟨fh ht,⟨⟨[],rfl,fun e he=>by cases he⟩,rfl⟩,trivial⟩
theorem FZ:ft (4 * 30) callerA:=by
 constructor
 ·show 1+300+4 * 30≤900;decide
 ·show 4+3 * (4 * 30)≤9000;decide
theorem F0 {prog:Program}{s:Shared}{L fa:Addr}{vs:List Value}{aK:List Int}(B:Base prog (ja w s.heap mg mb))(hc:CodeHd s.heap 497 495)(ht:s.heap.get? 495=some (tabObj #[]))(Rm:mg "law"=some (.ref fa))(hw:Well w.params s.heap (.ref L) (ofPy (.list (aK.map PyData.int))))(hl:s.heap.IsList L vs.toArray)(hi:IntsAre vs aK)(hlen:aK.length≤63)
  (plain:∃k σ',uG aK=.ok (.bool true,k) σ') {Q E:Value→Shared→Prop} (q:∀s',b0 s s'→OldK s.heap s'.heap→Q (.bool true) s'):wpAny (model prog w) callerA (PySem.call (.ref fa) [.ref L]) Q E s:=by
 obtain ⟨k,σ',e⟩:=plain
 obtain ⟨O1,h1,h2⟩:=tN B 30 callerA FZ "law" [.list (aK.map .int)] [.ref L] (qx s.heap) {} s (I6 ht rfl) (wB ht hw hl hi hlen) (by
  show uG aK≠_;rw [e];exact fun q=>by cases q)
 have h1:mg "law"=some (.ref O1):=h1;rw [Rm] at h1;cases h1;have e':ae 30 "law" [.list (aK.map .int)] {}=.ok (.bool true,k) σ':=e;rw [e'] at h2;refine wpAny_mono h2 (fun v s' y=>?_) (fun v s' y=>?_)
 ·obtain ⟨a,OB,e2,a0,y1,y2,y3,y4⟩:=y;cases e2
  have hv:v=.bool true:=by
   cases k with
   |val=>exact Rep.bool_inv (show Rep (ja w s.heap mg mb) a0 (.bool true) v from y4)
   |h=>obtain ⟨es,_,_,_,_,_,e,_⟩:=(show wJ (ja w s.heap mg mb) a0 σ' s'.heap (.bool true) v from y4);cases e
   |own=>obtain ⟨_,⟨_,r,_,_,_⟩,_⟩:=(show cT _ _ _ _ _ _ _ _ from y4);cases r
   |bg=>obtain ⟨_,⟨_,r,_,_,_⟩,_⟩:=(show cT _ _ _ _ _ _ _ _ from y4);cases r
  subst hv;exact q s' y1 (oldK hc rfl ht y3 y2)
 ·obtain ⟨m,OB,e2,_⟩:=y;cases e2
end
end Mine.Internal
end
section
open PySem PySem.W PyProof.Rows
set_option tactic.hygienic true
namespace Mine.Internal
end Mine.Internal
theorem PySem.Challenge.cw_nz0494_01_holds : PySem.Challenge.rw_nz0494_01.Holds := by
 refine Mine.Internal.head ?_
 w_strict (
  intro w s₀ s₁ mg mb G Y fa o pm cd doc dV kV ho hd OV hD Rn hg args vals as sg OC Ro Rp MD;refine Ground.open G ?_;intro T B D TE TW;have ht:=Y.2;have X:=Y.1;clear hd D
  wrow_args sg OC Ro Rp MD
  rename_i aK _ _ _ _ _ _ _ L vs _ hL _ w1 _ hI _ PW _;have hlen:aK.length≤63:=by omega
  refine Mine.Internal.F0 (Mine.Internal.FY _ X ht T.g T.b T.nolimit T.builtins T.bmain) (codeHd_of_K X (show codeHdIn (Mine.Internal.KK w.params) 497 495=true by kernel_rfl)) ht Rn w1 hL hI hlen (Mine.Internal.zt aK hlen) (fun s' sm ok=>?_);obtain ⟨h',tk⟩:=sm;refine ⟨.inl ⟨.bool true,.bool true,[],rfl,?_,.bool true,?_,?_⟩,ok,rfl,AllBare.of_eq hg⟩
  ·intro cls;rfl
  ·first|rfl|wrow_post
  ·intro _;exact ⟨List.nodup_nil,fun _ q=>by cases q⟩)
end
