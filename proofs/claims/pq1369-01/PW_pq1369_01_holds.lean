import PyProof.Rows.All
import Wide.All
import OpenK.AllK
import Wide.FinOn
import KE.KNestM
import PySem.Challenge.RW_pq1369_01
open PySem PySem.W PySem.Spec PySem.Calls PyProof.Rows
set_option Elab.async false
set_option maxRecDepth 100000
set_option maxHeartbeats 0
set_option linter.all false
set_option tactic.hygienic false
namespace Mine
local macro_rules | `(tactic| exists $e) => `(tactic| with_reducible refine $e)
noncomputable section
noncomputable abbrev pw:Program:=PySem.Challenge.pw_pq1369_01
noncomputable abbrev q(x:String):Str:=Str.ofString x
noncomputable abbrev hK(P:Params)(x:Str):Int:=PyData.keyHash P x
noncomputable abbrev nd(o:Obj)(l r:BT):BT:= .node o l r
noncomputable def bd:List Stmt:=behindTheImports pw
def sA(i:Nat):Stmt:=(bd[i]?).getD (.Pass ⟨0,0,0,0⟩)
def cA(i j:Nat):Stmt:=match sA i with
 | .ClassDef _ _ _ b _ _ _ _ _ _ _=>(b[j]?).getD (.Pass ⟨0,0,0,0⟩)
 |s=>s
noncomputable def RB(g bl:Addr)(s:Stmt)(qual:Str)(dV kV doc pm cd ct:Value):FuncData:=match s with
 | .FunctionDef name args body _ _ _ scope _ _ _=>{name,qualname:=qual,params:=args,body:= .stmts body,scope,globals:=g,closure:=[],defaults:=dV,kwdefaults:=kV,doc,pyModule:=pm,annotations:=none,code:=cd,closureTuple:=ct,builtins:=bl}
 |_=>default
noncomputable def fD(s:Stmt)(qual:Str)(dV kV doc pm cd ct:Value):FuncData:=RB mainNs builtinsNs s qual dV kV doc pm cd ct
noncomputable def lf:Life:={}
noncomputable def d0:Drawn:={}
def sl(a b:Nat):List Stmt:=(bd.drop a).take (b- a)
noncomputable def env:Env:={scope:=pw.main.scope,locals:=mainNs,globals:=mainNs,cells:=[],code:= .ref 13,frame:=some 14}
def cE:Code:= .body bd env
noncomputable def z0:Pos:=⟨0,0,0,0⟩
noncomputable def ann:Option Value:=some (.ref 6)
noncomputable def S(x:String)(t:Nat):Value:= .str (q x) t
noncomputable def I(n:Int):Value:= .int n 0
noncomputable def J(n:Int)(t:Nat):Value:= .int n t
noncomputable def R(a:Addr):Value:= .ref a
noncomputable def N:Value:= .none
noncomputable def ob(c:String)(d:Data):Obj:=⟨.type c,none,d,#[]⟩
noncomputable def on(d:Data):Obj:=⟨.none,none,d,#[]⟩
def di(l:List DictEntry)(k:Nat):Obj:=ob "dict" (.dict ⟨l⟩ k)
def dj(l:List DictEntry)(k:Nat):Obj:=on (.dict ⟨l⟩ k)
def E(P:Params)(x:String)(t:Nat)(v:Value):DictEntry:=⟨hK P (q x),S x t,v⟩
def ca(P:Params)(t:Nat)(m:Value)(x:String)(l:List DictEntry)(k:Nat):Obj:=di (E P "__module__" t m::E P "__qualname__" (t+2) (S x (t+1))::l) k
def cb(P:Params)(t:Nat)(m:Value)(f:Params→List DictEntry→List DictEntry)(u:Nat)(a:Addr):Obj:=di (E P "__module__" t m::f P [E P "__dict__" u (R a),E P "__weakref__" (u+2) (R (a+1)),E P "__doc__" (u+3) N]) 4
def pa(t:Nat):Value:=S "/claim/cut.py" t
def cx(x y:String)(b l a f r t:Nat)(z:Bool)(u v w:Value):Obj:=ob "code" (.fields #[S x b,S y (b+1),pa (b+2),I l,I a,I 0,I 0,I f,R r,.bool z,I 181,R (r+1),N,u,v,w,I t,I l,pa (t+1)])
def co(x y:String)(b l a f r t:Nat):Obj:=cx x y b l a f r t true (R (r+2)) (R (r+3)) (R (r+4))
def cp(x y:String)(b l a f r t:Nat):Obj:=cx x y b l a f r t true N N (R (r+2))
def cq(x:String)(b l r t:Nat):Obj:=cx x x b l 0 0 r t false N N N
def tl:Nat→List String→List Value
 |_,[]=>[]
 |k,x::l=>S x k::tl (k+1) l
def ts(l:List Value):Obj:=ob "tuple" (.seq ⟨l⟩ 0)
def tu(k:Nat)(l:List String):Obj:=ts (tl k l)
def fu(s:Stmt)(x:String)(m:Value)(c:Addr):Obj:=ob "function" (.func (fD s (q x) N N N m (R c) N))
def fv(s:Stmt)(x:String)(d:Addr)(m:Value)(c:Addr):Obj:=ob "function" (.func (fD s (q x) (R d) N N m (R c) N))
def fo(s:Stmt)(x:String):Obj:=on (.func (RB 0 0 s (q x) N N N N N N))
def K(a b c:Nat)(l:List Value):List Value:=I a::I b::R c::l
def K4(a c:Nat)(l:List Value):List Value:=I a::I 4::R c::l
def fp(l:List Value):Obj:=on (.fields ⟨l⟩)
def su(a:Addr):Obj:=ob "super" (.fields #[R a,R a,R a])
def bi(a:Addr):Obj:=ob "builtin_function_or_method" (.fields #[.builtin "object.__init_subclass__",R a])
def gd(t:Nat)(a:Addr):Obj:=ob "getset_descriptor" (.fields #[S "__dict__" t,R a,.builtin "function.__dict__",.builtin "function.__dict__#set"])
def gw(t:Nat)(a:Addr):Obj:=ob "getset_descriptor" (.fields #[S "__weakref__" t,R a,.builtin "ExceptionGroup.__weakref__",N])
def fr(a c:Addr)(m:Value):Obj:=⟨.type "frame",none,.plain,#[some (R a),some (R 3),some (R c),none,some m,none,some (R 0)]⟩
def ty(x:String)(r n t u:Nat):Obj:=⟨.type "type",none,.cls ⟨q x,[.type "object"],[R r,.type "object"],n,q x,true,[],[],false,none,false⟩,#[none,none,some (S x t),some (S x u),some (.builtin "object.__new__"),some (.bool true)]⟩
def y7:Obj:=ob "tuple" (.seq #[])
def y8:Obj:=on (.fields #[])
noncomputable def le(o:Obj):BT:=nd o .nil .nil
noncomputable def ll(o:Obj)(l:BT):BT:=nd o l .nil
def eT:Value:=S "vectorcove.s4classes" 549
def k9:Value:=S "vectorcove.attrs" 194
def fm:Value:=S "vectorcove.errors" 273
def iG:Value:=S "vectorcove.callargs" 428
def b6:Value:=S "vectorcove.values" 777
def lW:Value:=S "vectorcove.s4generics" 1606
def m5:Value:=S "vectorcove.dispatch" 1189
def i3:Value:=S "vectorcove.s4methods" 1266
def fE:Value:=S "vectorcove.s4objects" 1392
def gE:Value:=S "law_pq1369_01" 2294
def il:Value:=S "vectorcove.s4classcalls" 1657
def lV:Value:=S "vectorcove.funcall" 1835
def cW:Value:=S "vectorcove.evaluator" 1911
def ao:BT:=le y7
def aC:BT:=le y8
def o0:Obj:=cq "<module>" 182 1 11 185
def o1:Obj:=fr 13 3 (S "__main__" 164)
def o2(P:Params):Obj:=dj (E P "type.__subclasses__.Exception.0" 291 (I 97)::E P "type.__subclasses__.Exception.n" 292 (I 1)::[]) 2
def v7(P:Params)(l:List DictEntry):List DictEntry:=E P "__doc__" 166 N::E P "__package__" 167 N::E P "__loader__" 168 (.builtin "__main__.__loader__#opaque")::E P "__spec__" 169 N::E P "__annotations__" 170 (R 6)::E P "__builtins__" 171 (R 4)::E P "__file__" 173 (S "/claim/cut.py" 172)::E P "__cached__" 174 N::E P "_wall" 193 (R 21)::E P "get_attr" 203 (R 28)::E P "names_of" 209 (R 33)::E P "dim_of" 217 (R 40)::E P "dimnames_of" 223 (R 45)::E P "class_attr" 231 (R 52)::E P "language_class" 239 (R 59)::E P "shape_class" 247 (R 66)::E P "plain_class" 255 (R 73)::E P "implicit_class" 264 (R 80)::E P "class_of" 272 (R 87)::E P "CoveError" 294 (R 97)::E P "Refusal" 319 (R 117)::E P "RError" 348 (R 136)::E P "LimitReached" 373 (R 155)::E P "ReturnSignal" 400 (R 174)::E P "LoopSignal" 427 (R 193)::E P "Matching" 512 (R 252)::E P "doubled_text" 519 (R 263)::E P "argument_text" 530 (R 270)::E P "unused_text" 536 (R 275)::E P "match_names" 542 (R 281)::E P "take" 548 (R 287)::E P "S4Class" 589 (R 304)::E P "data_kinds" 595 (R 315)::E P "basic_names" 601 (R 322)::E P "basic_parents" 608 (R 329)::l
def o3(P:Params):Obj:=di (E P "__name__" 165 eT::v7 P []) 36
def nf(l:List Value):List Value:=K 1 0 20<|K 5 0 27<|K 9 0 32<|K 25 0 39<|K 30 0 44<|K 35 0 51<|K 40 0 58<|K 45 0 65<|K 50 0 72<|K 61 0 79<|K 67 0 86<|K 76 0 93<|K 78 0 106<|K 82 0 125<|K 88 0 144<|K 92 0 163<|K 97 0 182<|K 103 0 201<|K 156 0 262<|K 158 0 269<|K 167 0 274<|K 173 0 280<|K 182 0 286<|K 194 0 293<|K 203 0 314<|K 205 0 321<|K 207 0 328<|l
def o4:Obj:=fp (nf [])
def o5:Obj:=tu 190 ["k"]
def o6:Obj:=fo (sA 0) "_wall"
def o7:Obj:=co "_wall" "_wall" 187 1 1 3 15 191
def o8:Obj:=fu (sA 0) "_wall" (S "__main__" 164) 20
def o9:Obj:=tu 199 ["v","name"]
def wm:Obj:=fo (sA 2) "get_attr"
def qT:Obj:=co "get_attr" "get_attr" 196 5 2 3 22 201
def qZ:Obj:=fu (sA 2) "get_attr" k9 27
def wH:Obj:=fo (sA 3) "names_of"
def rt:Obj:=cp "names_of" "names_of" 204 9 1 3 29 207
def rD:Obj:=fu (sA 3) "names_of" k9 32
def rM:Obj:=tu 213 ["v","dims"]
def wT:Obj:=fo (sA 4) "dim_of"
def rZ:Obj:=co "dim_of" "dim_of" 210 25 1 3 34 215
def sf:Obj:=fu (sA 4) "dim_of" k9 39
def w8:Obj:=fo (sA 5) "dimnames_of"
def sD:Obj:=cp "dimnames_of" "dimnames_of" 218 30 1 3 41 221
def sE:Obj:=fu (sA 5) "dimnames_of" k9 44
def sF:Obj:=tu 227 ["v","found"]
def xz:Obj:=fo (sA 6) "class_attr"
def sG:Obj:=co "class_attr" "class_attr" 224 35 1 3 46 229
def sH:Obj:=fu (sA 6) "class_attr" k9 51
def sJ:Obj:=tu 235 ["v","head"]
def yc:Obj:=fo (sA 7) "language_class"
def sM:Obj:=co "language_class" "language_class" 232 40 1 3 53 237
def sN:Obj:=fu (sA 7) "language_class" k9 58
def sO:Obj:=tu 243 ["v","dims"]
def yE:Obj:=fo (sA 8) "shape_class"
def sP:Obj:=co "shape_class" "shape_class" 240 45 1 3 60 245
def sQ:Obj:=fu (sA 8) "shape_class" k9 65
def sT:Obj:=tu 251 ["v","kind"]
def yY:Obj:=fo (sA 9) "plain_class"
def sU:Obj:=co "plain_class" "plain_class" 248 50 1 3 67 253
def sV:Obj:=fu (sA 9) "plain_class" k9 72
def sW:Obj:=tu 259 ["v","kind","rows"]
def zv:Obj:=fo (sA 10) "implicit_class"
def sX:Obj:=co "implicit_class" "implicit_class" 256 61 1 3 74 262
def sY:Obj:=fu (sA 10) "implicit_class" k9 79
def sZ:Obj:=tu 268 ["v","rows"]
def zw:Obj:=fo (sA 11) "class_of"
def s0:Obj:=co "class_of" "class_of" 265 67 1 3 81 270
def s7:Obj:=fu (sA 11) "class_of" k9 86
def s8:Obj:=ts [.type "Exception"]
noncomputable def aZ:Obj:=⟨.type "builtin_function_or_method",none,.fields #[.builtin "type.__prepare__",.type "type"],#[]⟩
def QJ(P:Params)(l:List DictEntry):List DictEntry:=E P "__firstlineno__" 286 (J 76 285)::E P "__static_attributes__" 287 (R 95)::l
def zx(P:Params):Obj:=ca P 282 fm "CoveError" (QJ P []) 4
def zy:Obj:=cq "CoveError" 277 76 91 280
def zA:Obj:=fr 93 90 fm
def s9(P:Params):Obj:=di (E P "__module__" 282 fm::QJ P (E P "__weakref__" 289 (R 98)::E P "__doc__" 290 N::[])) 3
def te:Obj:=⟨.type "type",none,.cls ⟨(q "CoveError"),[.type "Exception"],[R 97,.type "Exception",.type "BaseException",.type "object"],96,(q "CoveError"),true,[],[R 117,R 136,R 155,R 174,R 193],false,none,false⟩,#[(some (R 88)),none,(some (S "CoveError" 275)),(some (S "CoveError" 283)),(some (.builtin "Exception.__new__")),(some (.bool true))]⟩
def th:Obj:=gw 288 97
def zB:Obj:=su 97
def zC:Obj:=bi 97
def dZ:Obj:=ts [R 97]
def QK(P:Params)(l:List DictEntry):List DictEntry:=E P "__firstlineno__" 306 (J 78 305)::E P "__init__" 314 (R 114)::E P "__static_attributes__" 316 (R 115)::l
def zD(P:Params):Obj:=ca P 302 fm "Refusal" (QK P []) 5
def zE:Obj:=fp (K4 80 113<|[])
def zF:Obj:=cq "Refusal" 297 78 104 300
def zG:Obj:=fr 106 103 fm
def tw:Obj:=tu 310 ["self","message"]
def zH:Obj:=fo (cA 14 0) "Refusal.__init__"
def tB:Obj:=co "__init__" "Refusal.__init__" 307 80 2 3 108 312
def tD:Obj:=fu (cA 14 0) "Refusal.__init__" fm 113
def tE:Obj:=tu 315 ["message"]
def tF(P:Params):Obj:=di (E P "__module__" 302 fm::QK P (E P "__doc__" 317 N::[])) 2
def tG:Obj:=⟨.type "type",none,.cls ⟨(q "Refusal"),[R 97],[R 117,R 97,.type "Exception",.type "BaseException",.type "object"],116,(q "Refusal"),true,[],[],false,none,false⟩,#[(some (R 101)),none,(some (S "Refusal" 295)),(some (S "Refusal" 303)),(some (.builtin "Exception.__new__")),(some (.bool true))]⟩
def zI:Obj:=su 117
def zK:Obj:=bi 117
def QV(P:Params)(l:List DictEntry):List DictEntry:=E P "__firstlineno__" 331 (J 82 330)::E P "__init__" 341 (R 133)::E P "__static_attributes__" 345 (R 134)::l
def zL(P:Params):Obj:=ca P 327 fm "RError" (QV P []) 5
def zM:Obj:=fp (K4 84 132<|[])
def zN:Obj:=cq "RError" 322 82 123 325
def zP:Obj:=fr 125 122 fm
def tH:Obj:=tu 335 ["self","message","call","condition"]
def zQ:Obj:=fo (cA 15 0) "RError.__init__"
def tI:Obj:=co "__init__" "RError.__init__" 332 84 4 3 127 339
def tJ:Obj:=fu (cA 15 0) "RError.__init__" fm 132
def tK:Obj:=tu 342 ["call","condition","message"]
def tL(P:Params):Obj:=di (E P "__module__" 327 fm::QV P (E P "__doc__" 346 N::[])) 2
def tM:Obj:=⟨.type "type",none,.cls ⟨(q "RError"),[R 97],[R 136,R 97,.type "Exception",.type "BaseException",.type "object"],135,(q "RError"),true,[],[],false,none,false⟩,#[(some (R 120)),none,(some (S "RError" 320)),(some (S "RError" 328)),(some (.builtin "Exception.__new__")),(some (.bool true))]⟩
def zR:Obj:=su 136
def zS:Obj:=bi 136
def QY(P:Params)(l:List DictEntry):List DictEntry:=E P "__firstlineno__" 360 (J 88 359)::E P "__init__" 368 (R 152)::E P "__static_attributes__" 370 (R 153)::l
def zT(P:Params):Obj:=ca P 356 fm "LimitReached" (QY P []) 5
def zV:Obj:=fp (K4 90 151<|[])
def zW:Obj:=cq "LimitReached" 351 88 142 354
def zX:Obj:=fr 144 141 fm
def tN:Obj:=tu 364 ["self","what"]
def zY:Obj:=fo (cA 16 0) "LimitReached.__init__"
def tP:Obj:=co "__init__" "LimitReached.__init__" 361 90 2 3 146 366
def tQ:Obj:=fu (cA 16 0) "LimitReached.__init__" fm 151
def tR:Obj:=tu 369 ["what"]
def tS(P:Params):Obj:=di (E P "__module__" 356 fm::QY P (E P "__doc__" 371 N::[])) 2
def tT:Obj:=⟨.type "type",none,.cls ⟨(q "LimitReached"),[R 97],[R 155,R 97,.type "Exception",.type "BaseException",.type "object"],154,(q "LimitReached"),true,[],[],false,none,false⟩,#[(some (R 139)),none,(some (S "LimitReached" 349)),(some (S "LimitReached" 357)),(some (.builtin "Exception.__new__")),(some (.bool true))]⟩
def zZ:Obj:=su 155
def Aa:Obj:=bi 155
def QZ(P:Params)(l:List DictEntry):List DictEntry:=E P "__firstlineno__" 385 (J 92 384)::E P "__init__" 394 (R 171)::E P "__static_attributes__" 397 (R 172)::l
def Ab(P:Params):Obj:=ca P 381 fm "ReturnSignal" (QZ P []) 5
def Ac:Obj:=fp (K4 94 170<|[])
def Ae:Obj:=cq "ReturnSignal" 376 92 161 379
def wn:Obj:=fr 163 160 fm
def qN:Obj:=tu 389 ["self","number","value"]
def wp:Obj:=fo (cA 17 0) "ReturnSignal.__init__"
def qO:Obj:=co "__init__" "ReturnSignal.__init__" 386 94 3 3 165 392
def qP:Obj:=fu (cA 17 0) "ReturnSignal.__init__" fm 170
def qQ:Obj:=tu 395 ["number","value"]
def qR(P:Params):Obj:=di (E P "__module__" 381 fm::QZ P (E P "__doc__" 398 N::[])) 2
def qS:Obj:=⟨.type "type",none,.cls ⟨(q "ReturnSignal"),[R 97],[R 174,R 97,.type "Exception",.type "BaseException",.type "object"],173,(q "ReturnSignal"),true,[],[],false,none,false⟩,#[(some (R 158)),none,(some (S "ReturnSignal" 374)),(some (S "ReturnSignal" 382)),(some (.builtin "Exception.__new__")),(some (.bool true))]⟩
def wq:Obj:=su 174
def wt:Obj:=bi 174
def Q0(P:Params)(l:List DictEntry):List DictEntry:=E P "__firstlineno__" 412 (J 97 411)::E P "__init__" 421 (R 190)::E P "__static_attributes__" 424 (R 191)::l
def wu(P:Params):Obj:=ca P 408 fm "LoopSignal" (Q0 P []) 5
def ww:Obj:=fp (K4 99 189<|[])
def wx:Obj:=cq "LoopSignal" 403 97 180 406
def wy:Obj:=fr 182 179 fm
def qU:Obj:=tu 416 ["self","number","again"]
def wz:Obj:=fo (cA 18 0) "LoopSignal.__init__"
def qV:Obj:=co "__init__" "LoopSignal.__init__" 413 99 3 3 184 419
def qW:Obj:=fu (cA 18 0) "LoopSignal.__init__" fm 189
def qX:Obj:=tu 422 ["again","number"]
def qY(P:Params):Obj:=di (E P "__module__" 408 fm::Q0 P (E P "__doc__" 425 N::[])) 2
def q6:Obj:=⟨.type "type",none,.cls ⟨(q "LoopSignal"),[R 97],[R 193,R 97,.type "Exception",.type "BaseException",.type "object"],192,(q "LoopSignal"),true,[],[],false,none,false⟩,#[(some (R 177)),none,(some (S "LoopSignal" 401)),(some (S "LoopSignal" 409)),(some (.builtin "Exception.__new__")),(some (.bool true))]⟩
def wA:Obj:=su 193
def wB:Obj:=bi 193
def Q1(P:Params)(l:List DictEntry):List DictEntry:=E P "__firstlineno__" 441 (J 103 440)::E P "__init__" 450 (R 209)::E P "exact" 459 (R 216)::E P "partial" 467 (R 223)::E P "partial_of" 477 (R 230)::E P "positional" 486 (R 237)::E P "is_free" 494 (R 244)::E P "rest" 500 (R 249)::E P "__static_attributes__" 505 (R 250)::l
def wC(P:Params):Obj:=ca P 437 iG "Matching" (Q1 P []) 11
def wD:Obj:=fp (K4 105 208<|K4 111 215<|K4 121 222<|K4 128 229<|K4 139 236<|K4 151 243<|K4 154 248<|[])
def wE:Obj:=cq "Matching" 432 103 199 435
def wF:Obj:=fr 201 198 iG
def q7:Obj:=tu 445 ["self","formals","tags"]
def wG:Obj:=fo (cA 20 0) "Matching.__init__"
def q8:Obj:=co "__init__" "Matching.__init__" 442 105 3 3 203 448
def ra:Obj:=fu (cA 20 0) "Matching.__init__" iG 208
def rd:Obj:=tu 454 ["self","name","place"]
def wI:Obj:=fo (cA 20 1) "Matching.exact"
def rh:Obj:=co "exact" "Matching.exact" 451 111 1 3 210 457
def ri:Obj:=fu (cA 20 1) "Matching.exact" iG 215
def rj:Obj:=tu 463 ["self","name"]
def wJ:Obj:=fo (cA 20 2) "Matching.partial"
def rl:Obj:=co "partial" "Matching.partial" 460 121 1 3 217 465
def rp:Obj:=fu (cA 20 2) "Matching.partial" iG 222
def rq:Obj:=tu 471 ["self","name","place","tag"]
def wK:Obj:=fo (cA 20 3) "Matching.partial_of"
def ru:Obj:=co "partial_of" "Matching.partial_of" 468 128 2 3 224 475
def rx:Obj:=fu (cA 20 3) "Matching.partial_of" iG 229
def ry:Obj:=tu 481 ["self","place","name"]
def wL:Obj:=fo (cA 20 4) "Matching.positional"
def rz:Obj:=co "positional" "Matching.positional" 478 139 1 3 231 484
def rA:Obj:=fu (cA 20 4) "Matching.positional" iG 236
def rB:Obj:=tu 490 ["self","place"]
def wM:Obj:=fo (cA 20 5) "Matching.is_free"
def rC:Obj:=co "is_free" "Matching.is_free" 487 151 2 3 238 492
def rE:Obj:=fu (cA 20 5) "Matching.is_free" iG 243
def wN:Obj:=fo (cA 20 6) "Matching.rest"
def rF:Obj:=cp "rest" "Matching.rest" 495 154 1 3 245 498
def rG:Obj:=fu (cA 20 6) "Matching.rest" iG 248
def rH:Obj:=tu 501 ["formals","places","tags","used"]
def rI(P:Params):Obj:=cb P 437 iG Q1 507 253
def rJ:Obj:=⟨.type "type",none,.cls ⟨(q "Matching"),[.type "object"],[R 252,.type "object"],251,(q "Matching"),true,[],[],false,none,false⟩,#[none,none,(some (S "Matching" 430)),(some (S "Matching" 438)),(some (.builtin "object.__new__")),(some (.bool true))]⟩
def rK:Obj:=gd 506 252
def rL:Obj:=gw 508 252
def wO:Obj:=su 252
def wP:Obj:=bi 252
def rN:Obj:=tu 516 ["name"]
def wQ:Obj:=fo (sA 21) "doubled_text"
def rO:Obj:=co "doubled_text" "doubled_text" 513 156 1 3 257 517
def rP:Obj:=fu (sA 21) "doubled_text" iG 262
def rQ:Obj:=tu 523 ["args","place","show","tag","value"]
def wR:Obj:=fo (sA 22) "argument_text"
def rR:Obj:=co "argument_text" "argument_text" 520 158 3 3 264 528
def rS:Obj:=fu (sA 22) "argument_text" iG 269
def wS:Obj:=fo (sA 23) "unused_text"
def rT:Obj:=cp "unused_text" "unused_text" 531 167 3 3 271 534
def rU:Obj:=fu (sA 23) "unused_text" iG 274
def b0:Obj:=ts [N]
def wU:Obj:=fo (sA 24) "match_names"
def rV:Obj:=cp "match_names" "match_names" 537 173 3 3 277 540
def rW:Obj:=fv (sA 24) "match_names" 276 iG 280
def wV:Obj:=fo (sA 25) "take"
def rX:Obj:=cp "take" "take" 543 182 3 3 283 546
def rY:Obj:=fv (sA 25) "take" 282 iG 286
def Q2(P:Params)(l:List DictEntry):List DictEntry:=E P "__firstlineno__" 562 (J 194 561)::E P "__init__" 575 (R 301)::E P "__static_attributes__" 582 (R 302)::l
def wW(P:Params):Obj:=ca P 558 eT "S4Class" (Q2 P []) 5
def wX:Obj:=fp (K4 196 300<|[])
def wY:Obj:=cq "S4Class" 553 194 291 556
def wZ:Obj:=fr 293 290 eT
def r3:Obj:=tu 566 ["self","name","slots","contains","validity","virtual","prototype"]
def w0:Obj:=fo (cA 27 0) "S4Class.__init__"
def r6:Obj:=co "__init__" "S4Class.__init__" 563 196 7 3 295 573
def r7:Obj:=fu (cA 27 0) "S4Class.__init__" eT 300
def r8:Obj:=tu 576 ["contains","name","prototype","slots","validity","virtual"]
def r9(P:Params):Obj:=cb P 558 eT Q2 584 305
def se:Obj:=⟨.type "type",none,.cls ⟨(q "S4Class"),[.type "object"],[R 304,.type "object"],303,(q "S4Class"),true,[],[],false,none,false⟩,#[none,none,(some (S "S4Class" 551)),(some (S "S4Class" 559)),(some (.builtin "object.__new__")),(some (.bool true))]⟩
def sg:Obj:=gd 583 304
def sh:Obj:=gw 585 304
def w4:Obj:=su 304
def w5:Obj:=bi 304
def w6:Obj:=fo (sA 28) "data_kinds"
def si:Obj:=co "data_kinds" "data_kinds" 590 203 0 3 309 593
def sj:Obj:=fu (sA 28) "data_kinds" eT 314
def w7:Obj:=fo (sA 29) "basic_names"
def sk:Obj:=co "basic_names" "basic_names" 596 205 0 3 316 599
def sy:Obj:=fu (sA 29) "basic_names" eT 321
def sz:Obj:=tu 605 ["name"]
def w9:Obj:=fo (sA 30) "basic_parents"
def sB:Obj:=co "basic_parents" "basic_parents" 602 207 1 3 323 606
def sC:Obj:=fu (sA 30) "basic_parents" eT 328
def BN(P:Params)(l:List DictEntry):List DictEntry:=E P "ClassTable" 730 (R 409)::E P "check_slots" 742 (R 420)::E P "value_classes" 751 (R 427)::E P "class_supers" 765 (R 434)::E P "is_of" 776 (R 441)::E P "Null" 807 (R 458)::E P "Vector" 850 (R 487)::E P "Symbol" 881 (R 508)::E P "Call" 916 (R 530)::E P "Closure" 952 (R 552)::E P "Builtin" 989 (R 573)::E P "Environment" 1026 (R 595)::E P "Promise" 1061 (R 616)::l
def Gm(l:List Value):List Value:=K 223 0 335<|K 305 0 419<|K 315 0 426<|K 323 0 433<|K 339 0 440<|K 345 0 447<|K 350 0 468<|K 364 0 497<|K 370 0 518<|K 378 0 540<|K 386 0 562<|K 395 0 583<|K 405 0 605<|l
def Q3(P:Params)(l:List DictEntry):List DictEntry:=E P "__firstlineno__" 620 (J 223 619)::E P "__init__" 627 (R 343)::E P "define" 636 (R 350)::E P "set_union" 646 (R 357)::E P "get" 654 (R 364)::E P "basic" 662 (R 371)::E P "known" 670 (R 378)::E P "parents" 680 (R 385)::E P "supers" 694 (R 392)::E P "distance" 705 (R 399)::E P "slots_of" 720 (R 406)::E P "__static_attributes__" 723 (R 407)::l
def BU(P:Params):Obj:=ca P 616 eT "ClassTable" (Q3 P []) 14
def BV:Obj:=fp (K4 225 342<|K4 229 349<|K4 238 356<|K4 247 363<|K4 250 370<|K4 253 377<|K4 256 384<|K4 267 391<|K4 282 398<|K4 290 405<|[])
def BW:Obj:=cq "ClassTable" 611 223 333 614
def BX:Obj:=fr 335 332 eT
def xa:Obj:=tu 624 ["self"]
def BY:Obj:=fo (cA 31 0) "ClassTable.__init__"
def xb:Obj:=co "__init__" "ClassTable.__init__" 621 225 1 3 337 625
def xc:Obj:=fu (cA 31 0) "ClassTable.__init__" eT 342
def xd:Obj:=tu 631 ["self","c","name"]
def BZ:Obj:=fo (cA 31 1) "ClassTable.define"
def xe:Obj:=co "define" "ClassTable.define" 628 229 2 3 344 634
def xf:Obj:=fu (cA 31 1) "ClassTable.define" eT 349
def xg:Obj:=tu 640 ["self","name","members","member"]
def B0:Obj:=fo (cA 31 2) "ClassTable.set_union"
def xh:Obj:=co "set_union" "ClassTable.set_union" 637 238 3 3 351 644
def xi:Obj:=fu (cA 31 2) "ClassTable.set_union" eT 356
def xj:Obj:=tu 650 ["self","name"]
def B4:Obj:=fo (cA 31 3) "ClassTable.get"
def xk:Obj:=co "get" "ClassTable.get" 647 247 2 3 358 652
def xl:Obj:=fu (cA 31 3) "ClassTable.get" eT 363
def xm:Obj:=tu 658 ["self","name"]
def B5:Obj:=fo (cA 31 4) "ClassTable.basic"
def xn:Obj:=co "basic" "ClassTable.basic" 655 250 2 3 365 660
def xo:Obj:=fu (cA 31 4) "ClassTable.basic" eT 370
def xp:Obj:=tu 666 ["self","name"]
def B6:Obj:=fo (cA 31 5) "ClassTable.known"
def xq:Obj:=co "known" "ClassTable.known" 663 253 2 3 372 668
def xr:Obj:=fu (cA 31 5) "ClassTable.known" eT 377
def xu:Obj:=tu 674 ["self","name","found","union"]
def B7:Obj:=fo (cA 31 6) "ClassTable.parents"
def xw:Obj:=co "parents" "ClassTable.parents" 671 256 2 3 379 678
def xx:Obj:=fu (cA 31 6) "ClassTable.parents" eT 384
def xy:Obj:=tu 684 ["self","name","rows","seen","at","one","steps","parent"]
def B8:Obj:=fo (cA 31 7) "ClassTable.supers"
def xB:Obj:=co "supers" "ClassTable.supers" 681 267 2 3 386 692
def xC:Obj:=fu (cA 31 7) "ClassTable.supers" eT 391
def xD:Obj:=tu 698 ["self","sub","super_name","name","steps"]
def B9:Obj:=fo (cA 31 8) "ClassTable.distance"
def xE:Obj:=co "distance" "ClassTable.distance" 695 282 3 3 393 703
def xF:Obj:=fu (cA 31 8) "ClassTable.distance" eT 398
def xG:Obj:=tu 709 ["self","name","found","seen","one","steps","rows","slot","kind"]
def Ca:Obj:=fo (cA 31 9) "ClassTable.slots_of"
def xH:Obj:=co "slots_of" "ClassTable.slots_of" 706 290 2 3 400 718
def xI:Obj:=fu (cA 31 9) "ClassTable.slots_of" eT 405
def xJ:Obj:=tu 721 ["classes","unions"]
def xK(P:Params):Obj:=cb P 616 eT Q3 725 410
def xL:Obj:=⟨.type "type",none,.cls ⟨(q "ClassTable"),[.type "object"],[R 409,.type "object"],408,(q "ClassTable"),true,[],[],false,none,false⟩,#[none,none,(some (S "ClassTable" 609)),(some (S "ClassTable" 617)),(some (.builtin "object.__new__")),(some (.bool true))]⟩
def xM:Obj:=gd 724 409
def xN:Obj:=gw 726 409
def Cb:Obj:=su 409
def Cc:Obj:=bi 409
def xO:Obj:=tu 734 ["table","c","seen","slot","kind","parent"]
def Cd:Obj:=fo (sA 32) "check_slots"
def xP:Obj:=co "check_slots" "check_slots" 731 305 2 3 414 740
def xQ:Obj:=fu (sA 32) "check_slots" eT 419
def xR:Obj:=tu 746 ["v","rows","one"]
def Ce:Obj:=fo (sA 33) "value_classes"
def xS:Obj:=co "value_classes" "value_classes" 743 315 1 3 421 749
def xT:Obj:=fu (sA 33) "value_classes" eT 426
def xU:Obj:=tu 755 ["table","v","rows","seen","own","place","name","steps"]
def Cf:Obj:=fo (sA 34) "class_supers"
def xV:Obj:=co "class_supers" "class_supers" 752 323 2 3 428 763
def xW:Obj:=fu (sA 34) "class_supers" eT 433
def xX:Obj:=tu 769 ["table","v","name","one","steps"]
def Cg:Obj:=fo (sA 35) "is_of"
def xY:Obj:=co "is_of" "is_of" 766 339 3 3 435 774
def xZ:Obj:=fu (sA 35) "is_of" eT 440
def Q4(P:Params)(l:List DictEntry):List DictEntry:=E P "__firstlineno__" 790 (J 345 789)::E P "__init__" 797 (R 455)::E P "__static_attributes__" 800 (R 456)::l
def Ch(P:Params):Obj:=ca P 786 b6 "Null" (Q4 P []) 5
def Ci:Obj:=fp (K4 347 454<|[])
def Cj:Obj:=cq "Null" 781 345 445 784
def Ck:Obj:=fr 447 444 b6
def ya:Obj:=tu 794 ["self"]
def Cm:Obj:=fo (cA 37 0) "Null.__init__"
def yb:Obj:=co "__init__" "Null.__init__" 791 347 1 3 449 795
def yd:Obj:=fu (cA 37 0) "Null.__init__" b6 454
def ye:Obj:=tu 798 ["attrs","kind"]
def yf(P:Params):Obj:=cb P 786 b6 Q4 802 459
def yg:Obj:=⟨.type "type",none,.cls ⟨(q "Null"),[.type "object"],[R 458,.type "object"],457,(q "Null"),true,[],[],false,none,false⟩,#[none,none,(some (S "Null" 779)),(some (S "Null" 787)),(some (.builtin "object.__new__")),(some (.bool true))]⟩
def yh:Obj:=gd 801 458
def yi:Obj:=gw 803 458
def Co:Obj:=su 458
def Cp:Obj:=bi 458
def QL(P:Params)(l:List DictEntry):List DictEntry:=E P "__firstlineno__" 819 (J 350 818)::E P "__init__" 829 (R 477)::E P "copy" 837 (R 484)::E P "__static_attributes__" 843 (R 485)::l
def Cq(P:Params):Obj:=ca P 815 b6 "Vector" (QL P []) 6
def Cr:Obj:=fp (K4 352 476<|K4 359 483<|[])
def Cs:Obj:=cq "Vector" 810 350 466 813
def Ct:Obj:=fr 468 465 b6
def yj:Obj:=tu 823 ["self","kind","items","attrs"]
def Cu:Obj:=fo (cA 38 0) "Vector.__init__"
def yk:Obj:=co "__init__" "Vector.__init__" 820 352 4 3 471 827
def yl:Obj:=fv (cA 38 0) "Vector.__init__" 470 b6 476
def ym:Obj:=tu 833 ["self","attrs"]
def Cv:Obj:=fo (cA 38 1) "Vector.copy"
def yn:Obj:=co "copy" "Vector.copy" 830 359 1 3 478 835
def yo:Obj:=fu (cA 38 1) "Vector.copy" b6 483
def yp:Obj:=tu 838 ["attrs","items","kind","loose","shared"]
def yq(P:Params):Obj:=cb P 815 b6 QL 845 488
def yr:Obj:=⟨.type "type",none,.cls ⟨(q "Vector"),[.type "object"],[R 487,.type "object"],486,(q "Vector"),true,[],[],false,none,false⟩,#[none,none,(some (S "Vector" 808)),(some (S "Vector" 816)),(some (.builtin "object.__new__")),(some (.bool true))]⟩
def yt:Obj:=gd 844 487
def yu:Obj:=gw 846 487
def Cw:Obj:=su 487
def Cy:Obj:=bi 487
def QM(P:Params)(l:List DictEntry):List DictEntry:=E P "__firstlineno__" 862 (J 364 861)::E P "__init__" 870 (R 505)::E P "__static_attributes__" 874 (R 506)::l
def Cz(P:Params):Obj:=ca P 858 b6 "Symbol" (QM P []) 5
def CB:Obj:=fp (K4 366 504<|[])
def CC:Obj:=cq "Symbol" 853 364 495 856
def CD:Obj:=fr 497 494 b6
def yv:Obj:=tu 866 ["self","name"]
def CE:Obj:=fo (cA 39 0) "Symbol.__init__"
def yw:Obj:=co "__init__" "Symbol.__init__" 863 366 2 3 499 868
def yx:Obj:=fu (cA 39 0) "Symbol.__init__" b6 504
def yy:Obj:=tu 871 ["attrs","kind","name"]
def yz(P:Params):Obj:=cb P 858 b6 QM 876 509
def yB:Obj:=⟨.type "type",none,.cls ⟨(q "Symbol"),[.type "object"],[R 508,.type "object"],507,(q "Symbol"),true,[],[],false,none,false⟩,#[none,none,(some (S "Symbol" 851)),(some (S "Symbol" 859)),(some (.builtin "object.__new__")),(some (.bool true))]⟩
def yC:Obj:=gd 875 508
def yD:Obj:=gw 877 508
def CF:Obj:=su 508
def CG:Obj:=bi 508
def QN(P:Params)(l:List DictEntry):List DictEntry:=E P "__firstlineno__" 893 (J 370 892)::E P "__init__" 903 (R 527)::E P "__static_attributes__" 909 (R 528)::l
def CH(P:Params):Obj:=ca P 889 b6 "Call" (QN P []) 5
def CJ:Obj:=fp (K4 372 526<|[])
def CK:Obj:=cq "Call" 884 370 516 887
def CM:Obj:=fr 518 515 b6
def yF:Obj:=tu 897 ["self","items","tags","attrs"]
def CN:Obj:=fo (cA 40 0) "Call.__init__"
def yG:Obj:=co "__init__" "Call.__init__" 894 372 4 3 521 901
def yH:Obj:=fv (cA 40 0) "Call.__init__" 520 b6 526
def yI:Obj:=tu 904 ["attrs","code","items","kind","tags"]
def yJ(P:Params):Obj:=cb P 889 b6 QN 911 531
def yK:Obj:=⟨.type "type",none,.cls ⟨(q "Call"),[.type "object"],[R 530,.type "object"],529,(q "Call"),true,[],[],false,none,false⟩,#[none,none,(some (S "Call" 882)),(some (S "Call" 890)),(some (.builtin "object.__new__")),(some (.bool true))]⟩
def yL:Obj:=gd 910 530
def yM:Obj:=gw 912 530
def CO:Obj:=su 530
def CP:Obj:=bi 530
def QO(P:Params)(l:List DictEntry):List DictEntry:=E P "__firstlineno__" 928 (J 378 927)::E P "__init__" 939 (R 549)::E P "__static_attributes__" 945 (R 550)::l
def CQ(P:Params):Obj:=ca P 924 b6 "Closure" (QO P []) 5
def CR:Obj:=fp (K4 380 548<|[])
def CS:Obj:=cq "Closure" 919 378 538 922
def CT:Obj:=fr 540 537 b6
def yN:Obj:=tu 932 ["self","formals","body","env","attrs"]
def CU:Obj:=fo (cA 41 0) "Closure.__init__"
def yO:Obj:=co "__init__" "Closure.__init__" 929 380 5 3 543 937
def yP:Obj:=fv (cA 41 0) "Closure.__init__" 542 b6 548
def yQ:Obj:=tu 940 ["attrs","body","env","formals","kind"]
def yR(P:Params):Obj:=cb P 924 b6 QO 947 553
def yS:Obj:=⟨.type "type",none,.cls ⟨(q "Closure"),[.type "object"],[R 552,.type "object"],551,(q "Closure"),true,[],[],false,none,false⟩,#[none,none,(some (S "Closure" 917)),(some (S "Closure" 925)),(some (.builtin "object.__new__")),(some (.bool true))]⟩
def yT:Obj:=gd 946 552
def yU:Obj:=gw 948 552
def CV:Obj:=su 552
def CW:Obj:=bi 552
def QP(P:Params)(l:List DictEntry):List DictEntry:=E P "__firstlineno__" 964 (J 386 963)::E P "__init__" 975 (R 570)::E P "__static_attributes__" 982 (R 571)::l
def CX(P:Params):Obj:=ca P 960 b6 "Builtin" (QP P []) 5
def CY:Obj:=fp (K4 388 569<|[])
def CZ:Obj:=cq "Builtin" 955 386 560 958
def C1:Obj:=fr 562 559 b6
def yV:Obj:=tu 968 ["self","name","special","fn","group"]
def C2:Obj:=fo (cA 42 0) "Builtin.__init__"
def yW:Obj:=co "__init__" "Builtin.__init__" 965 388 5 3 564 973
def yX:Obj:=fu (cA 42 0) "Builtin.__init__" b6 569
def yZ:Obj:=tu 976 ["attrs","fn","group","kind","name","special"]
def za(P:Params):Obj:=cb P 960 b6 QP 984 574
def zb:Obj:=⟨.type "type",none,.cls ⟨(q "Builtin"),[.type "object"],[R 573,.type "object"],572,(q "Builtin"),true,[],[],false,none,false⟩,#[none,none,(some (S "Builtin" 953)),(some (S "Builtin" 961)),(some (.builtin "object.__new__")),(some (.bool true))]⟩
def zc:Obj:=gd 983 573
def zd:Obj:=gw 985 573
def C3:Obj:=su 573
def C4:Obj:=bi 573
def QQ(P:Params)(l:List DictEntry):List DictEntry:=E P "__firstlineno__" 1001 (J 395 1000)::E P "__init__" 1011 (R 592)::E P "__static_attributes__" 1019 (R 593)::l
def C5(P:Params):Obj:=ca P 997 b6 "Environment" (QQ P []) 5
def C6:Obj:=fp (K4 397 591<|[])
def C7:Obj:=cq "Environment" 992 395 581 995
def C8:Obj:=fr 583 580 b6
def ze:Obj:=tu 1005 ["self","number","parent","attrs"]
def C9:Obj:=fo (cA 43 0) "Environment.__init__"
def zf:Obj:=co "__init__" "Environment.__init__" 1002 397 4 3 586 1009
def zg:Obj:=fv (cA 43 0) "Environment.__init__" 585 b6 591
def zh:Obj:=tu 1012 ["attrs","frame","kind","locked","locks","number","parent"]
def zi(P:Params):Obj:=cb P 997 b6 QQ 1021 596
def zj:Obj:=⟨.type "type",none,.cls ⟨(q "Environment"),[.type "object"],[R 595,.type "object"],594,(q "Environment"),true,[],[],false,none,false⟩,#[none,none,(some (S "Environment" 990)),(some (S "Environment" 998)),(some (.builtin "object.__new__")),(some (.bool true))]⟩
def zk:Obj:=gd 1020 595
def zl:Obj:=gw 1022 595
def Dd:Obj:=su 595
def De:Obj:=bi 595
def QR(P:Params)(l:List DictEntry):List DictEntry:=E P "__firstlineno__" 1038 (J 405 1037)::E P "__init__" 1047 (R 613)::E P "__static_attributes__" 1054 (R 614)::l
def Df(P:Params):Obj:=ca P 1034 b6 "Promise" (QR P []) 5
def Dg:Obj:=fp (K4 407 612<|[])
def Dh:Obj:=cq "Promise" 1029 405 603 1032
def Di:Obj:=fr 605 602 b6
def zm:Obj:=tu 1042 ["self","expr","env"]
def Dj:Obj:=fo (cA 44 0) "Promise.__init__"
def zn:Obj:=co "__init__" "Promise.__init__" 1039 407 3 3 607 1045
def zo:Obj:=fu (cA 44 0) "Promise.__init__" b6 612
def zp:Obj:=tu 1048 ["attrs","env","expr","kind","state","value"]
def zq(P:Params):Obj:=cb P 1034 b6 QR 1056 617
def zr:Obj:=⟨.type "type",none,.cls ⟨(q "Promise"),[.type "object"],[R 616,.type "object"],615,(q "Promise"),true,[],[],false,none,false⟩,#[none,none,(some (S "Promise" 1027)),(some (S "Promise" 1035)),(some (.builtin "object.__new__")),(some (.bool true))]⟩
def zt:Obj:=gd 1055 616
def zu:Obj:=gw 1057 616
def Dk:Obj:=su 616
def Dl:Obj:=bi 616
def Jm(P:Params)(z:Addr)(l:List DictEntry):List DictEntry:=E P "Dots" 1092 (R 637)::E P "S4Object" 1124 (R 658)::E P "null" 1130 (R 669)::E P "integer" 1137 (R 676)::E P "character" 1144 (R 683)::E P "flag" 1151 (R 690)::E P "text" 1158 (R 697)::E P "symbol" 1165 (R 704)::E P "call_of" 1174 (R 711)::E P "is_function" 1181 (R 718)::E P "share" 1188 (R 725)::E P "Dispatch" 1229 (R 742)::E P "plain_value" 1237 (R 753)::E P "plain_form" 1246 (R 760)::E P "quoted_call" 1258 (R z)::E P "quoted_call_dispatch" 1259 (R 767)::E P "internal_call" 1265 (R 772)::E P "MethodTable" 1370 (R 843)::E P "place_in" 1379 (R 854)::E P "measure" 1391 (R 861)::E P "S4State" 1423 (R 878)::E P "s4_state" 1430 (R 889)::E P "quoted" 1437 (R 896)::E P "empty_factor" 1444 (R 903)::E P "empty_matrix" 1451 (R 910)::E P "default_value" 1462 (R 917)::E P "prototype_value" 1477 (R 924)::E P "make_prototype" 1490 (R 931)::E P "copy_object" 1498 (R 938)::E P "slot_class" 1509 (R 945)::E P "slot_faults" 1522 (R 952)::E P "told_faults" 1528 (R 957)::E P "validity_faults" 1543 (R 964)::E P "faults_text" 1549 (R 969)::E P "validate" 1558 (R 976)::E P "take_super" 1570 (R 983)::E P "check_slot_names" 1582 (R 990)::E P "default_initialize" 1595 (R 997)::E P "fresh_object" 1605 (R 1004)::l
def oS(l:List Value):List Value:=K 414 0 626<|K 420 0 647<|K 427 0 668<|K 429 0 675<|K 431 0 682<|K 433 0 689<|K 437 0 696<|K 439 0 703<|K 441 0 710<|K 444 0 717<|K 446 0 724<|K 451 0 731<|K 460 0 752<|K 464 0 759<|K 470 0 766<|K 480 0 771<|K 497 0 778<|K 545 0 853<|K 550 0 860<|K 561 0 867<|K 567 0 888<|K 571 0 895<|K 573 0 902<|K 577 0 909<|K 581 0 916<|K 599 0 923<|K 606 0 930<|K 612 0 937<|K 617 0 944<|K 622 0 951<|K 630 0 956<|K 636 0 963<|K 646 0 968<|K 651 0 975<|K 657 0 982<|K 668 0 989<|K 677 0 996<|K 692 0 1003<|l
def QS(P:Params)(l:List DictEntry):List DictEntry:=E P "__firstlineno__" 1073 (J 414 1072)::E P "__init__" 1081 (R 634)::E P "__static_attributes__" 1085 (R 635)::l
def Jz(P:Params):Obj:=ca P 1069 b6 "Dots" (QS P []) 5
def JA:Obj:=fp (K4 416 633<|[])
def JB:Obj:=cq "Dots" 1064 414 624 1067
def JC:Obj:=fr 626 623 b6
def Dm:Obj:=tu 1077 ["self","args"]
def JD:Obj:=fo (cA 45 0) "Dots.__init__"
def Dn:Obj:=co "__init__" "Dots.__init__" 1074 416 2 3 628 1079
def Do:Obj:=fu (cA 45 0) "Dots.__init__" b6 633
def Dp:Obj:=tu 1082 ["args","attrs","kind"]
def Dq(P:Params):Obj:=cb P 1069 b6 QS 1087 638
def Dr:Obj:=⟨.type "type",none,.cls ⟨(q "Dots"),[.type "object"],[R 637,.type "object"],636,(q "Dots"),true,[],[],false,none,false⟩,#[none,none,(some (S "Dots" 1062)),(some (S "Dots" 1070)),(some (.builtin "object.__new__")),(some (.bool true))]⟩
def Dt:Obj:=gd 1086 637
def Du:Obj:=gw 1088 637
def JE:Obj:=su 637
def JF:Obj:=bi 637
def QT(P:Params)(l:List DictEntry):List DictEntry:=E P "__firstlineno__" 1104 (J 420 1103)::E P "__init__" 1112 (R 655)::E P "__static_attributes__" 1117 (R 656)::l
def JG(P:Params):Obj:=ca P 1100 b6 "S4Object" (QT P []) 5
def JH:Obj:=fp (K4 422 654<|[])
def JI:Obj:=cq "S4Object" 1095 420 645 1098
def JJ:Obj:=fr 647 644 b6
def Dv:Obj:=tu 1108 ["self","name"]
def JK:Obj:=fo (cA 46 0) "S4Object.__init__"
def Dw:Obj:=co "__init__" "S4Object.__init__" 1105 422 2 3 649 1110
def Dx:Obj:=fu (cA 46 0) "S4Object.__init__" b6 654
def Dy:Obj:=tu 1113 ["attrs","kind","name","slots"]
def Dz(P:Params):Obj:=cb P 1100 b6 QT 1119 659
def DA:Obj:=⟨.type "type",none,.cls ⟨(q "S4Object"),[.type "object"],[R 658,.type "object"],657,(q "S4Object"),true,[],[],false,none,false⟩,#[none,none,(some (S "S4Object" 1093)),(some (S "S4Object" 1101)),(some (.builtin "object.__new__")),(some (.bool true))]⟩
def DB:Obj:=gd 1118 658
def DC:Obj:=gw 1120 658
def JL:Obj:=su 658
def JM:Obj:=bi 658
def JN:Obj:=fo (sA 47) "null"
def DD:Obj:=co "null" "null" 1125 427 0 3 663 1128
def DE:Obj:=fu (sA 47) "null" b6 668
def DF:Obj:=tu 1134 ["items"]
def JO:Obj:=fo (sA 48) "integer"
def DG:Obj:=co "integer" "integer" 1131 429 1 3 670 1135
def DH:Obj:=fu (sA 48) "integer" b6 675
def DI:Obj:=tu 1141 ["items"]
def JP:Obj:=fo (sA 49) "character"
def DJ:Obj:=co "character" "character" 1138 431 1 3 677 1142
def DL:Obj:=fu (sA 49) "character" b6 682
def DM:Obj:=tu 1148 ["b"]
def JQ:Obj:=fo (sA 50) "flag"
def DN:Obj:=co "flag" "flag" 1145 433 1 3 684 1149
def DO:Obj:=fu (sA 50) "flag" b6 689
def DP:Obj:=tu 1155 ["s"]
def JR:Obj:=fo (sA 51) "text"
def DQ:Obj:=co "text" "text" 1152 437 1 3 691 1156
def DR:Obj:=fu (sA 51) "text" b6 696
def DT:Obj:=tu 1162 ["name"]
def JS:Obj:=fo (sA 52) "symbol"
def DU:Obj:=co "symbol" "symbol" 1159 439 1 3 698 1163
def DV:Obj:=fu (sA 52) "symbol" b6 703
def DW:Obj:=tu 1169 ["name","args","items"]
def JT:Obj:=fo (sA 53) "call_of"
def DX:Obj:=co "call_of" "call_of" 1166 441 2 3 705 1172
def DY:Obj:=fu (sA 53) "call_of" b6 710
def DZ:Obj:=tu 1178 ["v"]
def JU:Obj:=fo (sA 54) "is_function"
def D0:Obj:=co "is_function" "is_function" 1175 444 1 3 712 1179
def D2:Obj:=fu (sA 54) "is_function" b6 717
def D3:Obj:=tu 1185 ["v"]
def JV:Obj:=fo (sA 55) "share"
def D4:Obj:=co "share" "share" 1182 446 1 3 719 1186
def D5:Obj:=fu (sA 55) "share" b6 724
def QU(P:Params)(l:List DictEntry):List DictEntry:=E P "__firstlineno__" 1202 (J 451 1201)::E P "__init__" 1215 (R 739)::E P "__static_attributes__" 1222 (R 740)::l
def JW(P:Params):Obj:=ca P 1198 m5 "Dispatch" (QU P []) 5
def JX:Obj:=fp (K4 453 738<|[])
def JY:Obj:=cq "Dispatch" 1193 451 729 1196
def JZ:Obj:=fr 731 728 m5
def D6:Obj:=tu 1206 ["self","generic","classes","obj","call_env","def_env","group"]
def J0:Obj:=fo (cA 57 0) "Dispatch.__init__"
def D7:Obj:=co "__init__" "Dispatch.__init__" 1203 453 7 3 733 1213
def D8:Obj:=fu (cA 57 0) "Dispatch.__init__" m5 738
def D9:Obj:=tu 1216 ["call_env","classes","def_env","generic","group","obj"]
def Ea(P:Params):Obj:=cb P 1198 m5 QU 1224 743
def Eb:Obj:=gd 1223 742
def Ec:Obj:=gw 1225 742
def J1:Obj:=su 742
def J2:Obj:=bi 742
def Ed:Obj:=tu 1233 ["interp","value"]
def J3:Obj:=fo (sA 58) "plain_value"
def Ee:Obj:=co "plain_value" "plain_value" 1230 460 2 3 747 1235
def Ef:Obj:=fu (sA 58) "plain_value" m5 752
def Eg:Obj:=tu 1241 ["interp","builtin","values"]
def J4:Obj:=fo (sA 59) "plain_form"
def Eh:Obj:=co "plain_form" "plain_form" 1238 464 3 3 754 1244
def Ei:Obj:=fu (sA 59) "plain_form" m5 759
def Ej:Obj:=tu 1250 ["builtin","values","items","tags","tag","value"]
def J5:Obj:=fo (sA 60) "quoted_call"
def Ek:Obj:=co "quoted_call" "quoted_call" 1247 470 2 3 761 1256
def El:Obj:=fu (sA 60) "quoted_call" m5 766
def J6:Obj:=fo (sA 62) "internal_call"
def Em:Obj:=cp "internal_call" "internal_call" 1260 480 5 3 768 1263
def En:Obj:=fu (sA 62) "internal_call" m5 771
def QW(P:Params)(l:List DictEntry):List DictEntry:=E P "__firstlineno__" 1279 (J 497 1278)::E P "__init__" 1286 (R 786)::E P "set_generic" 1295 (R 793)::E P "is_generic" 1303 (R 800)::E P "full_signature" 1314 (R 807)::E P "set_method" 1324 (R 814)::E P "exact" 1336 (R 821)::E P "candidates" 1342 (R 826)::E P "select" 1351 (R 833)::E P "next_methods" 1361 (R 840)::E P "__static_attributes__" 1363 (R 841)::l
def J7(P:Params):Obj:=ca P 1275 i3 "MethodTable" (QW P []) 13
def J8:Obj:=fp (K4 499 785<|K4 502 792<|K4 505 799<|K4 508 806<|K4 519 813<|K4 522 820<|K4 531 825<|K4 540 832<|K4 543 839<|[])
def J9:Obj:=cq "MethodTable" 1270 497 776 1273
def Ka:Obj:=fr 778 775 i3
def Eo:Obj:=tu 1283 ["self"]
def Kb:Obj:=fo (cA 64 0) "MethodTable.__init__"
def Ep:Obj:=co "__init__" "MethodTable.__init__" 1280 499 1 3 780 1284
def Er:Obj:=fu (cA 64 0) "MethodTable.__init__" i3 785
def Es:Obj:=tu 1290 ["self","name","arguments"]
def Kc:Obj:=fo (cA 64 1) "MethodTable.set_generic"
def Et:Obj:=co "set_generic" "MethodTable.set_generic" 1287 502 3 3 787 1293
def Eu:Obj:=fu (cA 64 1) "MethodTable.set_generic" i3 792
def Ev:Obj:=tu 1299 ["self","name"]
def Kd:Obj:=fo (cA 64 2) "MethodTable.is_generic"
def Ew:Obj:=co "is_generic" "MethodTable.is_generic" 1296 505 2 3 794 1301
def Ex:Obj:=fu (cA 64 2) "MethodTable.is_generic" i3 799
def Ey:Obj:=tu 1307 ["self","name","signature","arguments","classes"]
def Ke:Obj:=fo (cA 64 3) "MethodTable.full_signature"
def EA:Obj:=co "full_signature" "MethodTable.full_signature" 1304 508 3 3 801 1312
def EB:Obj:=fu (cA 64 3) "MethodTable.full_signature" i3 806
def EC:Obj:=tu 1318 ["self","name","signature","function"]
def Kf:Obj:=fo (cA 64 4) "MethodTable.set_method"
def ED:Obj:=co "set_method" "MethodTable.set_method" 1315 519 4 3 808 1322
def EF:Obj:=fu (cA 64 4) "MethodTable.set_method" i3 813
def EG:Obj:=tu 1328 ["self","name","signature","full","one","function"]
def Kh:Obj:=fo (cA 64 5) "MethodTable.exact"
def EH:Obj:=co "exact" "MethodTable.exact" 1325 522 3 3 815 1334
def EI:Obj:=fu (cA 64 5) "MethodTable.exact" i3 820
def Ki:Obj:=fo (cA 64 6) "MethodTable.candidates"
def EJ:Obj:=cp "candidates" "MethodTable.candidates" 1337 531 3 3 822 1340
def EK:Obj:=fu (cA 64 6) "MethodTable.candidates" i3 825
def EL:Obj:=tu 1346 ["self","name","rows"]
def Kj:Obj:=fo (cA 64 7) "MethodTable.select"
def EM:Obj:=co "select" "MethodTable.select" 1343 540 3 3 827 1349
def EO:Obj:=fu (cA 64 7) "MethodTable.select" i3 832
def EP:Obj:=tu 1355 ["self","name","rows","signature"]
def Kk:Obj:=fo (cA 64 8) "MethodTable.next_methods"
def EQ:Obj:=co "next_methods" "MethodTable.next_methods" 1352 543 4 3 834 1359
def ER:Obj:=fu (cA 64 8) "MethodTable.next_methods" i3 839
def ES:Obj:=tu 1362 ["generics"]
def ET(P:Params):Obj:=cb P 1275 i3 QW 1365 844
def EU:Obj:=⟨.type "type",none,.cls ⟨(q "MethodTable"),[.type "object"],[R 843,.type "object"],842,(q "MethodTable"),true,[],[],false,none,false⟩,#[none,none,(some (S "MethodTable" 1268)),(some (S "MethodTable" 1276)),(some (.builtin "object.__new__")),(some (.bool true))]⟩
def EV:Obj:=gd 1364 843
def EW:Obj:=gw 1366 843
def Kl:Obj:=su 843
def Km:Obj:=bi 843
def EX:Obj:=tu 1374 ["rows","name","place"]
def Kn:Obj:=fo (sA 65) "place_in"
def EY:Obj:=co "place_in" "place_in" 1371 545 2 3 848 1377
def EZ:Obj:=fu (sA 65) "place_in" i3 853
def E0:Obj:=tu 1383 ["signature","rows","total","places","at","place"]
def Ko:Obj:=fo (sA 66) "measure"
def E3:Obj:=co "measure" "measure" 1380 550 2 3 855 1389
def E4:Obj:=fu (sA 66) "measure" i3 860
def QX(P:Params)(l:List DictEntry):List DictEntry:=E P "__firstlineno__" 1405 (J 561 1404)::E P "__init__" 1412 (R 875)::E P "__static_attributes__" 1416 (R 876)::l
def Kq(P:Params):Obj:=ca P 1401 fE "S4State" (QX P []) 5
def Kr:Obj:=fp (K4 563 874<|[])
def Ks:Obj:=cq "S4State" 1396 561 865 1399
def Kt:Obj:=fr 867 864 fE
def E5:Obj:=tu 1409 ["self"]
def Ku:Obj:=fo (cA 68 0) "S4State.__init__"
def E6:Obj:=co "__init__" "S4State.__init__" 1406 563 1 3 869 1410
def E7:Obj:=fu (cA 68 0) "S4State.__init__" fE 874
def E8:Obj:=tu 1413 ["classes","methods","older"]
def E9(P:Params):Obj:=cb P 1401 fE QX 1418 879
def Fa:Obj:=⟨.type "type",none,.cls ⟨(q "S4State"),[.type "object"],[R 878,.type "object"],877,(q "S4State"),true,[],[],false,none,false⟩,#[none,none,(some (S "S4State" 1394)),(some (S "S4State" 1402)),(some (.builtin "object.__new__")),(some (.bool true))]⟩
def Fb:Obj:=gd 1417 878
def Fc:Obj:=gw 1419 878
def Kv:Obj:=su 878
def Kw:Obj:=bi 878
def Fd:Obj:=tu 1427 ["interp"]
def Kx:Obj:=fo (sA 69) "s4_state"
def Fe:Obj:=co "s4_state" "s4_state" 1424 567 1 3 883 1428
def Ff:Obj:=fu (sA 69) "s4_state" fE 888
def Fg:Obj:=tu 1434 ["name"]
def Ky:Obj:=fo (sA 70) "quoted"
def Fh:Obj:=co "quoted" "quoted" 1431 571 1 3 890 1435
def Fi:Obj:=fu (sA 70) "quoted" fE 895
def Fj:Obj:=tu 1441 ["value"]
def KC:Obj:=fo (sA 71) "empty_factor"
def Fk:Obj:=co "empty_factor" "empty_factor" 1438 573 0 3 897 1442
def Fl:Obj:=fu (sA 71) "empty_factor" fE 902
def Fm:Obj:=tu 1448 ["value"]
def KD:Obj:=fo (sA 72) "empty_matrix"
def Fn:Obj:=co "empty_matrix" "empty_matrix" 1445 577 0 3 904 1449
def Fo:Obj:=fu (sA 72) "empty_matrix" fE 909
def Fp:Obj:=tu 1455 ["interp","kind","seen","table","found"]
def KE:Obj:=fo (sA 73) "default_value"
def Fq:Obj:=co "default_value" "default_value" 1452 581 3 3 911 1460
def Fs:Obj:=fu (sA 73) "default_value" fE 916
def Ft:Obj:=tu 1466 ["interp","name","slot","kind","seen","table","one","steps","c"]
def KG:Obj:=fo (sA 74) "prototype_value"
def Fu:Obj:=co "prototype_value" "prototype_value" 1463 599 5 3 918 1475
def Fw:Obj:=fu (sA 74) "prototype_value" fE 923
def Fx:Obj:=tu 1481 ["interp","name","seen","made","inner","slot","kind"]
def KH:Obj:=fo (sA 75) "make_prototype"
def Fy:Obj:=co "make_prototype" "make_prototype" 1478 606 3 3 925 1488
def FA:Obj:=fu (sA 75) "make_prototype" fE 930
def FC:Obj:=tu 1494 ["v","made"]
def KI:Obj:=fo (sA 76) "copy_object"
def FD:Obj:=co "copy_object" "copy_object" 1491 612 1 3 932 1496
def FE:Obj:=fu (sA 76) "copy_object" fE 937
def FF:Obj:=tu 1502 ["table","name","slot","one","kind"]
def KJ:Obj:=fo (sA 77) "slot_class"
def FH:Obj:=co "slot_class" "slot_class" 1499 617 3 3 939 1507
def FJ:Obj:=fu (sA 77) "slot_class" fE 944
def FK:Obj:=tu 1513 ["table","v","faults","slot","kind","value","got"]
def KL:Obj:=fo (sA 78) "slot_faults"
def FL:Obj:=co "slot_faults" "slot_faults" 1510 622 2 3 946 1520
def FM:Obj:=fu (sA 78) "slot_faults" fE 951
def KN:Obj:=fo (sA 79) "told_faults"
def FN:Obj:=cp "told_faults" "told_faults" 1523 630 1 3 953 1526
def FO:Obj:=fu (sA 79) "told_faults" fE 956
def FP:Obj:=tu 1532 ["interp","v","table","faults","rows","name","steps","c","call"]
def KO:Obj:=fo (sA 80) "validity_faults"
def FQ:Obj:=co "validity_faults" "validity_faults" 1529 636 2 3 958 1541
def FR:Obj:=fu (sA 80) "validity_faults" fE 963
def KP:Obj:=fo (sA 81) "faults_text"
def FS:Obj:=cp "faults_text" "faults_text" 1544 646 2 3 965 1547
def FT:Obj:=fu (sA 81) "faults_text" fE 968
def FU:Obj:=tu 1553 ["interp","v","faults"]
def KQ:Obj:=fo (sA 82) "validate"
def FW:Obj:=co "validate" "validate" 1550 651 2 3 970 1556
def FX:Obj:=fu (sA 82) "validate" fE 975
def FY:Obj:=tu 1562 ["table","made","value","slot","kind","got"]
def KR:Obj:=fo (sA 83) "take_super"
def FZ:Obj:=co "take_super" "take_super" 1559 657 3 3 977 1568
def F0:Obj:=fu (sA 83) "take_super" fE 982
def F3:Obj:=tu 1574 ["table","made","args","wrong","tag","value"]
def KS:Obj:=fo (sA 84) "check_slot_names"
def F4:Obj:=co "check_slot_names" "check_slot_names" 1571 668 3 3 984 1580
def F5:Obj:=fu (sA 84) "check_slot_names" fE 989
def F6:Obj:=tu 1586 ["interp","v","args","table","made","tag","value"]
def KU:Obj:=fo (sA 85) "default_initialize"
def F7:Obj:=co "default_initialize" "default_initialize" 1583 677 3 3 991 1593
def F8:Obj:=fu (sA 85) "default_initialize" fE 996
def F9:Obj:=tu 1599 ["interp","name","table","c"]
def KV:Obj:=fo (sA 86) "fresh_object"
def Ga:Obj:=co "fresh_object" "fresh_object" 1596 692 2 3 998 1603
def Gb:Obj:=fu (sA 86) "fresh_object" fE 1003
def SV(P:Params)(l:List DictEntry):List DictEntry:=E P "S4Dispatch" 1635 (R 1021)::E P "call_s4_method" 1641 (R 1028)::E P "initialized" 1656 (R 1035)::E P "quiet" 1666 (R 1042)::E P "one_name" 1674 (R 1049)::E P "text_pairs" 1686 (R 1056)::E P "class_parts" 1692 (R 1061)::E P "prototype_parts" 1703 (R 1068)::E P "check_prototype" 1715 (R 1075)::E P "generator" 1724 (R 1082)::E P "b_setClass" 1743 (R 1089)::E P "b_setClassUnion" 1749 (R 1094)::E P "new_object" 1763 (R 1101)::E P "split_first" 1772 (R 1108)::E P "b_isVirtualClass" 1782 (R 1115)::E P "b_is" 1788 (R 1120)::E P "b_extends" 1800 (R 1127)::E P "slot_rows" 1809 (R 1134)::E P "b_slotNames" 1815 (R 1139)::E P "lookup_here" 1825 (R 1146)::E P "lookup" 1834 (R 1153)::E P "done_promise" 1845 (R 1160)::E P "bound_argument" 1852 (R 1167)::E P "dots_argument" 1861 (R 1174)::E P "default_binding" 1869 (R 1181)::E P "bind_formals" 1875 (R 1187)::E P "dots_of" 1883 (R 1194)::E P "is_dots_place" 1890 (R 1201)::E P "dots_place" 1901 (R 1208)::E P "is_empty_name" 1910 (R 1215)::E P "Frame" 1951 (R 1232)::E P "Evaluator" 2280 (R 1442)::E P "quoted_call_evaluator" 2293 (R 1453)::E P "_law_pips" 2306 (R 1460)::E P "_law_pip" 2314 (R 1467)::l
def O3(l:List Value):List Value:=K 703 0 1010<|K 708 0 1027<|K 713 0 1034<|K 723 0 1041<|K 726 0 1048<|K 732 0 1055<|K 746 0 1060<|K 760 0 1067<|K 775 0 1074<|K 784 0 1081<|K 789 0 1088<|K 812 0 1093<|K 818 0 1100<|K 826 0 1107<|K 834 0 1114<|K 837 0 1119<|K 846 0 1126<|K 851 0 1133<|K 854 0 1138<|K 857 0 1145<|K 859 0 1152<|K 867 0 1159<|K 872 0 1166<|K 876 0 1173<|K 881 0 1180<|K 885 0 1186<|K 898 0 1193<|K 903 0 1200<|K 905 0 1207<|K 914 0 1214<|K 920 0 1221<|K 930 0 1242<|K 1210 0 1452<|K 1221 0 1459<|K 1233 0 1466<|l
def KW:Obj:=⟨.type "type",none,.cls ⟨(q "Dispatch"),[.type "object"],[R 742,.type "object"],741,(q "Dispatch"),true,[],[R 1021],false,none,false⟩,#[none,none,(some (S "Dispatch" 1191)),(some (S "Dispatch" 1199)),(some (.builtin "object.__new__")),(some (.bool true))]⟩
def KY:Obj:=ts [R 742]
def Hd(P:Params)(l:List DictEntry):List DictEntry:=E P "__firstlineno__" 1619 (J 703 1618)::E P "__init__" 1630 (R 1018)::E P "__static_attributes__" 1632 (R 1019)::l
def KZ:Obj:=tu 1623 ["self","generic","obj","env","rest"]
def K0:Obj:=co "__init__" "S4Dispatch.__init__" 1620 705 5 3 1012 1628
def K3:Obj:=fu (cA 88 0) "S4Dispatch.__init__" lW 1017
def K5:Obj:=tu 1631 ["rest"]
def K6(P:Params):Obj:=di (E P "__module__" 1615 lW::Hd P (E P "__doc__" 1633 N::[])) 2
def K7:Obj:=⟨.type "type",none,.cls ⟨(q "S4Dispatch"),[R 742],[R 1021,R 742,.type "object"],1020,(q "S4Dispatch"),true,[],[],false,none,false⟩,#[(some (R 1005)),none,(some (S "S4Dispatch" 1608)),(some (S "S4Dispatch" 1616)),(some (.builtin "object.__new__")),(some (.bool true))]⟩
def K8:Obj:=cp "call_s4_method" "call_s4_method" 1636 708 6 3 1024 1639
def K9:Obj:=fu (sA 89) "call_s4_method" lW 1027
def La:Obj:=tu 1645 ["interp","v","args","env","call","state","rows","found","dispatch"]
def Lb:Obj:=co "initialized" "initialized" 1642 713 5 3 1029 1654
def Lc:Obj:=fu (sA 90) "initialized" lW 1034
def Ld:Obj:=tu 1662 ["interp","value"]
def Le:Obj:=co "quiet" "quiet" 1659 723 2 3 1036 1664
def Lf:Obj:=fu (sA 92) "quiet" il 1041
def Lg:Obj:=tu 1670 ["value","what"]
def Lh:Obj:=co "one_name" "one_name" 1667 726 2 3 1043 1672
def Li:Obj:=fu (sA 93) "one_name" il 1048
def Lj:Obj:=tu 1678 ["value","names","pairs","place","item","name"]
def Ll:Obj:=co "text_pairs" "text_pairs" 1675 732 1 3 1050 1684
def Lm:Obj:=fu (sA 94) "text_pairs" il 1055
def Ln:Obj:=cp "class_parts" "class_parts" 1687 746 3 3 1057 1690
def Lo:Obj:=fu (sA 95) "class_parts" il 1060
def Lp:Obj:=tu 1696 ["value","names","parts","place","item"]
def Lq:Obj:=co "prototype_parts" "prototype_parts" 1693 760 1 3 1062 1701
def Lr:Obj:=fu (sA 96) "prototype_parts" il 1067
def Ls:Obj:=tu 1707 ["table","c","kinds","slot","kind","name"]
def Lu:Obj:=co "check_prototype" "check_prototype" 1704 775 2 3 1069 1713
def Lv:Obj:=fu (sA 97) "check_prototype" il 1074
def Ly:Obj:=tu 1719 ["name","make"]
def LA:Obj:=tu 1721 ["name"]
def LB:Obj:=co "generator" "generator" 1716 784 1 3 1076 1722
def LC:Obj:=fu (sA 98) "generator" il 1081
def LD:Obj:=tu 1728 ["interp","args","env","found","name","slots","supers","virtual","prototype","validity","table","older","c"]
def LG:Obj:=co "b_setClass" "b_setClass" 1725 789 3 3 1083 1741
def LH:Obj:=fu (sA 99) "b_setClass" il 1088
def LJ:Obj:=cp "b_setClassUnion" "b_setClassUnion" 1744 812 3 3 1090 1747
def LK:Obj:=fu (sA 100) "b_setClassUnion" il 1093
def LL:Obj:=tu 1753 ["interp","name","args","env","v","call","refusal","message"]
def LM:Obj:=co "new_object" "new_object" 1750 818 4 3 1095 1761
def LN:Obj:=fu (sA 101) "new_object" il 1100
def LO:Obj:=tu 1767 ["args","name","place"]
def LP:Obj:=co "split_first" "split_first" 1764 826 2 3 1102 1770
def LQ:Obj:=fu (sA 102) "split_first" il 1107
def LR:Obj:=tu 1776 ["interp","args","env","c"]
def LS:Obj:=co "b_isVirtualClass" "b_isVirtualClass" 1773 834 3 3 1109 1780
def LU:Obj:=fu (sA 103) "b_isVirtualClass" il 1114
def LV:Obj:=cp "b_is" "b_is" 1783 837 3 3 1116 1786
def LW:Obj:=fu (sA 104) "b_is" il 1119
def LX:Obj:=tu 1792 ["interp","args","env","found","table","steps"]
def LY:Obj:=co "b_extends" "b_extends" 1789 846 3 3 1121 1798
def LZ:Obj:=fu (sA 105) "b_extends" il 1126
def L4:Obj:=tu 1804 ["interp","value","name"]
def L5:Obj:=co "slot_rows" "slot_rows" 1801 851 2 3 1128 1807
def L6:Obj:=fu (sA 106) "slot_rows" il 1133
def L7:Obj:=cp "b_slotNames" "b_slotNames" 1810 854 3 3 1135 1813
def L8:Obj:=fu (sA 107) "b_slotNames" il 1138
def L9:Obj:=tu 1821 ["env","name"]
def Ma:Obj:=co "lookup_here" "lookup_here" 1818 857 2 3 1140 1823
def Mb:Obj:=fu (sA 109) "lookup_here" (S "vectorcove.scope" 1816) 1145
def Mc:Obj:=tu 1829 ["env","name","found"]
def Md:Obj:=co "lookup" "lookup" 1826 859 2 3 1147 1832
def Me:Obj:=fu (sA 110) "lookup" (S "vectorcove.scope" 1816) 1152
def Mf:Obj:=tu 1840 ["expr","value","promise"]
def Mg:Obj:=co "done_promise" "done_promise" 1837 867 2 3 1154 1843
def Mh:Obj:=fu (sA 112) "done_promise" lV 1159
def Mi:Obj:=tu 1849 ["value"]
def Mj:Obj:=co "bound_argument" "bound_argument" 1846 872 1 3 1161 1850
def Mk:Obj:=fu (sA 113) "bound_argument" lV 1166
def Ml:Obj:=tu 1856 ["arg","tag","value"]
def Mm:Obj:=co "dots_argument" "dots_argument" 1853 876 1 3 1168 1859
def Mn:Obj:=fu (sA 114) "dots_argument" lV 1173
def Mo:Obj:=tu 1865 ["default","env"]
def Mp:Obj:=co "default_binding" "default_binding" 1862 881 2 3 1175 1867
def Mq:Obj:=fu (sA 115) "default_binding" lV 1180
def Mr:Obj:=cp "bind_formals" "bind_formals" 1870 885 4 3 1183 1873
def Ms:Obj:=fv (sA 116) "bind_formals" 1182 lV 1186
def Mt:Obj:=tu 1879 ["env","found"]
def Mu:Obj:=co "dots_of" "dots_of" 1876 898 1 3 1188 1881
def Mv:Obj:=fu (sA 117) "dots_of" lV 1193
def Mw:Obj:=tu 1887 ["name"]
def Mx:Obj:=co "is_dots_place" "is_dots_place" 1884 903 1 3 1195 1888
def My:Obj:=fu (sA 118) "is_dots_place" lV 1200
def Mz:Obj:=tu 1894 ["env","name","dots","place","word"]
def MA:Obj:=co "dots_place" "dots_place" 1891 905 2 3 1202 1899
def MB:Obj:=fu (sA 119) "dots_place" lV 1207
def MC:Obj:=tu 1905 ["e","env","bound"]
def MD:Obj:=co "is_empty_name" "is_empty_name" 1902 914 2 3 1209 1908
def ME:Obj:=fu (sA 120) "is_empty_name" lV 1214
def He(P:Params)(l:List DictEntry):List DictEntry:=E P "__firstlineno__" 1924 (J 920 1923)::E P "__init__" 1936 (R 1229)::E P "__static_attributes__" 1944 (R 1230)::l
def MF:Obj:=tu 1928 ["self","call","function","env","caller","args"]
def MG:Obj:=co "__init__" "Frame.__init__" 1925 922 6 3 1223 1934
def MH:Obj:=fu (cA 122 0) "Frame.__init__" cW 1228
def MI:Obj:=tu 1937 ["args","call","caller","dispatch","env","function","on_exit"]
def MJ(P:Params):Obj:=cb P 1920 cW He 1946 1233
def MK:Obj:=⟨.type "type",none,.cls ⟨(q "Frame"),[.type "object"],[R 1232,.type "object"],1231,(q "Frame"),true,[],[],false,none,false⟩,#[none,none,(some (S "Frame" 1913)),(some (S "Frame" 1921)),(some (.builtin "object.__new__")),(some (.bool true))]⟩
def ML:Obj:=gd 1945 1232
def MM:Obj:=gw 1947 1232
def Hf(P:Params)(l:List DictEntry):List DictEntry:=E P "__firstlineno__" 1963 (J 930 1962)::E P "__init__" 1974 (R 1251)::E P "new_env" 1983 (R 1258)::E P "define" 1995 (R 1266)::E P "tick" 2002 (R 1273)::E P "signal_error" 2011 (R 1280)::E P "warn_all" 2020 (R 1288)::E P "running_call" 2027 (R 1295)::E P "eval" 2037 (R 1302)::E P "variable" 2048 (R 1309)::E P "dots_value" 2058 (R 1316)::E P "force" 2066 (R 1323)::E P "find_function" 2077 (R 1331)::E P "function_of" 2088 (R 1338)::E P "eval_call" 2097 (R 1345)::E P "plain_call" 2108 (R 1352)::E P "spread_dots" 2117 (R 1359)::E P "promise_args" 2130 (R 1366)::E P "eager_args" 2146 (R 1374)::E P "empty_arg" 2156 (R 1381)::E P "call_special" 2168 (R 1388)::E P "call_builtin" 2184 (R 1395)::E P "apply_closure" 2203 (R 1403)::E P "leave" 2214 (R 1410)::E P "run_exits" 2223 (R 1417)::E P "shower" 2232 (R 1424)::E P "call_value" 2243 (R 1432)::E P "run" 2253 (R 1439)::E P "__static_attributes__" 2273 (R 1440)::l
def TN:Obj:=fp (K4 932 1250<|K4 953 1257<|K4 958 1265<|K4 961 1272<|K4 966 1279<|K4 971 1287<|K4 974 1294<|K4 979 1301<|K4 990 1308<|K4 1006 1315<|K4 1012 1322<|K4 1026 1330<|K4 1039 1337<|K4 1050 1344<|K4 1053 1351<|K4 1063 1358<|K4 1069 1365<|K4 1081 1373<|K4 1099 1380<|K4 1104 1387<|K4 1112 1394<|K4 1128 1402<|K4 1162 1409<|K4 1175 1416<|K4 1183 1423<|K4 1194 1431<|K4 1205 1438<|[])
def Gc:Obj:=ts [J 20000 1964,J 40 1965]
def MN:Obj:=tu 1969 ["self","limit","most_frames"]
def MO:Obj:=co "__init__" "Evaluator.__init__" 1966 932 3 3 1245 1972
def MP:Obj:=fv (cA 123 0) "Evaluator.__init__" 1244 cW 1250
def MQ:Obj:=tu 1978 ["self","parent","env"]
def MR:Obj:=co "new_env" "Evaluator.new_env" 1975 953 2 3 1252 1981
def MS:Obj:=fu (cA 123 1) "Evaluator.new_env" cW 1257
def MT:Obj:=tu 1984 [""]
def MU:Obj:=tu 1988 ["self","name","special","fn","group"]
def MV:Obj:=co "define" "Evaluator.define" 1985 958 5 3 1260 1993
def MW:Obj:=fv (cA 123 2) "Evaluator.define" 1259 cW 1265
def MX:Obj:=tu 1999 ["self"]
def MY:Obj:=co "tick" "Evaluator.tick" 1996 961 1 3 1267 2000
def MZ:Obj:=fu (cA 123 3) "Evaluator.tick" cW 1272
def M3:Obj:=tu 2006 ["self","message","call"]
def M4:Obj:=co "signal_error" "Evaluator.signal_error" 2003 966 3 3 1274 2009
def M5:Obj:=fu (cA 123 4) "Evaluator.signal_error" cW 1279
def M6:Obj:=tu 2015 ["self","notes","call"]
def M7:Obj:=co "warn_all" "Evaluator.warn_all" 2012 971 3 3 1282 2018
def M8:Obj:=fv (cA 123 5) "Evaluator.warn_all" 1281 cW 1287
def M9:Obj:=tu 2024 ["self"]
def Na:Obj:=co "running_call" "Evaluator.running_call" 2021 974 1 3 1289 2025
def Nb:Obj:=fu (cA 123 6) "Evaluator.running_call" cW 1294
def Nc:Obj:=tu 2031 ["self","e","env","kind"]
def Nd:Obj:=co "eval" "Evaluator.eval" 2028 979 3 3 1296 2035
def Nf:Obj:=fu (cA 123 7) "Evaluator.eval" cW 1301
def Ng:Obj:=tu 2041 ["self","name","env","found","message"]
def Nh:Obj:=co "variable" "Evaluator.variable" 2038 990 3 3 1303 2046
def Ni:Obj:=fu (cA 123 8) "Evaluator.variable" cW 1308
def Nj:Obj:=tu 2052 ["self","name","env","refusal"]
def Nk:Obj:=co "dots_value" "Evaluator.dots_value" 2049 1006 3 3 1310 2056
def Nl:Obj:=fu (cA 123 9) "Evaluator.dots_value" cW 1315
def Nm:Obj:=tu 2062 ["self","promise"]
def Nn:Obj:=co "force" "Evaluator.force" 2059 1012 2 3 1317 2064
def No:Obj:=fu (cA 123 10) "Evaluator.force" cW 1322
def Np:Obj:=tu 2070 ["self","name","env","call","found"]
def Nq:Obj:=co "find_function" "Evaluator.find_function" 2067 1026 4 3 1325 2075
def Nr:Obj:=fv (cA 123 11) "Evaluator.find_function" 1324 cW 1330
def Nt:Obj:=tu 2081 ["self","call","env","head","found"]
def Nu:Obj:=co "function_of" "Evaluator.function_of" 2078 1039 3 3 1332 2086
def Nv:Obj:=fu (cA 123 12) "Evaluator.function_of" cW 1337
def Nw:Obj:=tu 2092 ["self","call","env"]
def Nx:Obj:=co "eval_call" "Evaluator.eval_call" 2089 1050 3 3 1339 2095
def Ny:Obj:=fu (cA 123 13) "Evaluator.eval_call" cW 1344
def Nz:Obj:=tu 2101 ["self","call","env","f","args"]
def NA:Obj:=co "plain_call" "Evaluator.plain_call" 2098 1053 3 3 1346 2106
def NB:Obj:=fu (cA 123 14) "Evaluator.plain_call" cW 1351
def NC:Obj:=tu 2112 ["self","env","dots"]
def ND:Obj:=co "spread_dots" "Evaluator.spread_dots" 2109 1063 2 3 1353 2115
def NE:Obj:=fu (cA 123 15) "Evaluator.spread_dots" cW 1358
def NF:Obj:=tu 2121 ["self","items","tags","env","args","place","item"]
def NG:Obj:=co "promise_args" "Evaluator.promise_args" 2118 1069 4 3 1360 2128
def NH:Obj:=fu (cA 123 16) "Evaluator.promise_args" cW 1365
def NI:Obj:=ts [.bool false]
def NJ:Obj:=tu 2134 ["self","items","tags","env","keep","args","place","item","tag","value"]
def NK:Obj:=co "eager_args" "Evaluator.eager_args" 2131 1081 5 3 1368 2144
def NL:Obj:=fv (cA 123 17) "Evaluator.eager_args" 1367 cW 1373
def NM:Obj:=tu 2150 ["self","item","keep","place"]
def NN:Obj:=co "empty_arg" "Evaluator.empty_arg" 2147 1099 4 3 1375 2154
def NO:Obj:=fu (cA 123 18) "Evaluator.empty_arg" cW 1380
def NP:Obj:=tu 2160 ["self","f","call","env","refusal","message"]
def NQ:Obj:=co "call_special" "Evaluator.call_special" 2157 1104 4 3 1382 2166
def NR:Obj:=fu (cA 123 19) "Evaluator.call_special" cW 1387
def NS:Obj:=tu 2172 ["self","builtin","call","args","env","saved","found","value","refusal","message"]
def NT:Obj:=co "call_builtin" "Evaluator.call_builtin" 2169 1112 5 3 1389 2182
def NU:Obj:=fu (cA 123 20) "Evaluator.call_builtin" cW 1394
def NV:Obj:=tu 2188 ["self","closure","args","call","caller","dispatch","env","message","refusal","frame","value","lost","signal"]
def NW:Obj:=co "apply_closure" "Evaluator.apply_closure" 2185 1128 6 3 1397 2201
def NX:Obj:=fv (cA 123 21) "Evaluator.apply_closure" 1396 cW 1402
def NY:Obj:=tu 2207 ["self","frame","value","visible","signal"]
def NZ:Obj:=co "leave" "Evaluator.leave" 2204 1162 3 3 1404 2212
def N2:Obj:=fu (cA 123 22) "Evaluator.leave" cW 1409
def N4:Obj:=tu 2218 ["self","frame","first"]
def N5:Obj:=co "run_exits" "Evaluator.run_exits" 2215 1175 2 3 1411 2221
def N6:Obj:=fu (cA 123 23) "Evaluator.run_exits" cW 1416
def N7:Obj:=tu 2227 ["self","show"]
def N8:Obj:=tu 2229 ["deparser"]
def N9:Obj:=co "shower" "Evaluator.shower" 2224 1183 1 3 1418 2230
def Oa:Obj:=fu (cA 123 24) "Evaluator.shower" cW 1423
def Ob:Obj:=tu 2236 ["self","f","args","env","call"]
def Oc:Obj:=co "call_value" "Evaluator.call_value" 2233 1194 5 3 1426 2241
def Od:Obj:=fv (cA 123 25) "Evaluator.call_value" 1425 cW 1431
def Oe:Obj:=tu 2247 ["self","program","value","e"]
def Of:Obj:=co "run" "Evaluator.run" 2244 1205 2 3 1433 2251
def Og:Obj:=fu (cA 123 26) "Evaluator.run" cW 1438
def Oh:Obj:=tu 2254 ["base","current","deparser","dispatcher","frames","globals","handlers","limit","most_frames","next_number","out","restarts","s4","signaller","steps","targets","visible","warner","warnings"]
def Oi(P:Params):Obj:=cb P 1959 cW Hf 2275 1443
def Oj:Obj:=⟨.type "type",none,.cls ⟨(q "Evaluator"),[.type "object"],[R 1442,.type "object"],1441,(q "Evaluator"),true,[],[],false,none,false⟩,#[none,none,(some (S "Evaluator" 1952)),(some (S "Evaluator" 1960)),(some (.builtin "object.__new__")),(some (.bool true))]⟩
def Ok:Obj:=gd 2274 1442
def Ol:Obj:=gw 2276 1442
def Om:Obj:=tu 2284 ["f","args","items","tags","tag","value"]
def On:Obj:=co "quoted_call" "quoted_call" 2281 1210 2 3 1447 2290
def Oo:Obj:=fu (sA 124) "quoted_call" cW 1452
def Op:Obj:=tu 2299 ["script","pips","cell","size_now","lap"]
def Oq:Obj:=co "_law_pips" "_law_pips" 2296 1221 1 3 1454 2304
def Ot:Obj:=fu (sA 127) "_law_pips" gE 1459
def Ou:Obj:=tu 2310 ["pips","many"]
def Ov:Obj:=co "_law_pip" "_law_pip" 2307 1233 2 3 1461 2312
def Ow:Obj:=fu (sA 128) "_law_pip" gE 1466
def md4(P:Params)(l:List DictEntry):List DictEntry:=E P "_law_word" 2321 (R 1474)::E P "_law_above" 2335 (R 1481)::E P "_law_is_known" 2343 (R 1488)::E P "_law_due" 2356 (R 1495)::E P "_law_set" 2369 (R 1502)::E P "law" 2375 (R 1507)::E P "_law_slots_of" 2381 (R 1512)::l
def TO(P:Params):Obj:=di (E P "__name__" 165 gE::v7 P (BN P (Jm P 1453 (SV P (md4 P []))))) 130
def O4(l:List Value):List Value:=K 1237 0 1473<|K 1239 0 1480<|K 1251 0 1487<|K 1253 0 1494<|K 1264 0 1501<|K 1275 0 1506<|K 1318 0 1511<|l
def TQ:Obj:=tu 2325 ["world","word","basics","found","one","further","one_union","other"]
def TR:Obj:=tu 2347 ["world","word","joiners","as_union","member","below_now","goal"]
def TS:Obj:=tu 2360 ["interp","word","joiners","as_union","wanted","one_slot","error"]
noncomputable def hA(P:Params):Heap:=⟨#[boot_o_0 P,boot_o_1 P,boot_o_2 P,boot_o_3 P,boot_o_4 P,boot_o_5 P,boot_o_6 P,boot_o_7 P,boot_o_8 P,boot_o_9 P,boot_o_10 P,boot_o_7 P,boot_o_8 P,o0,o1],lf⟩
def T0(P:Params):BT:=nd (boot_o_0 P) (nd (boot_o_1 P) (nd (boot_o_3 P) ao ao) (nd (boot_o_5 P) (le (boot_o_9 P)) (le o0))) (nd (boot_o_2 P) (nd (boot_o_4 P) aC aC) (nd (boot_o_6 P) (le (boot_o_10 P)) (le o1)))
def T1(P:Params):BT:=nd (boot_o_0 P) (nd (boot_o_1 P) (nd (o3 P) (nd y7 (nd y7 (nd wH (nd y7 (ll y7 (le wO)) (ll qX ao)) (nd y7 (ll aZ (le rY)) (le rp))) (nd y8 (nd sX (ll zV ao) (le wG)) (nd y7 (ll wq (le (r9 P))) aC))) (nd y8 (nd rZ (nd yY (ll (tL P) (le rP)) (ll y7 (le w9))) (nd (zD P) (ll qN ao) ao)) (nd sJ (nd s7 (ll tP (le wU)) (le rh)) (nd zK (ll wy ao) (le wN))))) (nd y7 (nd o6 (nd y8 (nd y7 (ll zQ (le rN)) (ll wB ao)) (nd zB (ll Ae ao) ao)) (nd sG (nd sZ (ll y8 (le rU)) aC) (nd tE (ll (wu P) (le w4)) (le rC)))) (nd qT (nd w8 (nd y8 (ll dZ ao) ao) (nd zG (ll qP (le w0)) (le wL))) (nd sN (nd y7 (ll tT ao) (le rj)) (nd y7 (ll y7 (le sj)) (le (rI P))))))) (nd (boot_o_5 P) (nd (boot_o_9 P) (nd o5 (nd rD (nd sP (ll tH ao) (ll q6 (le sk))) (nd te (ll y7 (le aZ)) aC)) (nd y7 (nd y7 (ll zX (le wS)) (le ra)) (nd tB (ll dZ (le sg)) ao))) (nd y7 (nd y7 (nd sV (ll zR aC) (ll wE (le sC))) (nd zE (ll wp (le r3)) (le ry))) (nd yc (nd aZ (ll tR (le rW)) ao) (nd aZ (ll y8 (le w6)) (le rG))))) (nd o0 (nd o8 (nd y7 (nd sT (ll tJ (le wQ)) (ll aZ (le sz))) (nd dZ (ll y7 (le wY)) (le ru))) (nd y7 (nd zw (ll y7 ao) ao) (nd tG (ll ww ao) ao))) (nd y7 (nd sE (nd y7 (ll (zT P) (le rR)) (le q7)) (nd y8 (ll (qR P) (le r7)) (le rA))) (nd y8 (nd zy (ll Aa (le wV)) (le wJ)) (nd zN (ll qV aC) (le rK))))))) (nd (o2 P) (nd (boot_o_4 P) (nd y8 (nd y8 (nd rt (nd yE (ll y8 (le wP)) (ll (qY P) (le w7))) (nd (s9 P) (ll (Ab P) ao) ao)) (nd sF (nd sY (ll zW aC) (le q8)) (nd zH (ll wt (le se)) (le rB)))) (nd o9 (nd sf (nd sU (ll tM ao) (ll wD (le sB))) (nd y7 (ll y7 aC) aC)) (nd y7 (nd s8 (ll tQ (le rV)) (le ri)) (nd dZ (ll y7 ao) (le rF))))) (nd o4 (nd o7 (nd rM (nd y8 (ll tI ao) (ll y7 aC)) (nd zC (ll wn (le wX)) (le wK))) (nd sH (nd y7 (ll tN (le b0)) (le rd)) (nd (tF P) (ll y7 (le w5)) (le rE)))) (nd qZ (nd sD (nd sW (ll aZ (le wR)) aC) (nd y7 (ll qQ (le r6)) (le rz))) (nd y7 (nd y8 (ll zZ aC) ao) (nd zM (ll wz ao) (le rJ)))))) (nd (boot_o_6 P) (nd (boot_o_10 P) (nd y7 (nd y7 (nd sQ (ll y7 aC) (ll wA (le sy))) (nd th (ll Ac (le (wW P))) (le rq))) (nd xz (nd y8 (ll y7 (le rT)) ao) (nd tD (ll aZ (le sh)) (le wM)))) (nd wm (nd y8 (nd y7 (ll zS (le rQ)) (le wF)) (nd zF (ll qO ao) ao)) (nd sM (nd (zx P) (ll (tS P) (le b0)) aC) (nd (zL P) (ll qU (le si)) (le rH))))) (nd o1 (nd y7 (nd wT (nd y7 (ll tK (le rO)) (ll (wC P) ao)) (nd aZ (ll y8 (le wZ)) (le rx))) (nd y8 (nd s0 (ll zY aC) (le wI)) (nd zI (ll wx aC) aC))) (nd y8 (nd y7 (nd zv (ll y7 (le rS)) ao) (nd tw (ll qS (le r8)) ao)) (nd sO (nd zA (ll dZ (le rX)) (le rl)) (nd zP (ll qW ao) (le rL)))))))
def T2(P:Params):BT:=nd (boot_o_0 P) (nd (boot_o_1 P) (nd (di (E P "__name__" 165 b6::v7 P (BN P [])) 49) (nd y7 (nd y7 (nd wH (nd y7 (nd y7 (ll wO (le CF)) (le B7)) (nd qX (ll y7 (le zd)) (le Cj))) (nd y7 (nd aZ (ll rY ao) aC) (nd rp (ll y7 ao) aC))) (nd y8 (nd sX (nd zV (ll y7 (le yH)) (le xF)) (nd wG (ll BW (le zf)) ao)) (nd y7 (nd wq (ll (r9 P) (le (CX P))) ao) (nd y8 (le xm) ao)))) (nd y8 (nd rZ (nd yY (nd (tL P) (ll rP (le CM)) (le xB)) (nd y7 (ll w9 (le C7)) (le yd))) (nd (zD P) (nd qN (ll y7 (le (yR P))) (le xR)) (nd y7 (ll y8 (le (zq P))) (le yr)))) (nd sJ (nd s7 (nd tP (ll wU ao) (le xJ)) (nd rh (ll xc (le De)) ao)) (nd zK (nd wy (ll y7 ao) (le Cg)) (nd wN ao (le CE)))))) (nd y7 (nd o6 (nd y8 (nd y7 (nd zQ (ll rN (le (CH P))) aC) (nd wB (ll y7 (le aZ)) (le ya))) (nd zB (nd Ae (ll y7 (le CU)) (le xP)) (nd y7 (ll B0 (le Dj)) (le yn)))) (nd sG (nd sZ (nd y8 (ll rU (le yL)) ao) (nd y8 (ll xa (le zj)) (le Cr))) (nd tE (nd (wu P) (ll w4 (le C1)) ao) (nd rC (le xo) ao)))) (nd qT (nd w8 (nd y8 (nd dZ (ll y7 (le yF)) (le xD)) (nd y7 (ll aZ aC) (le yh))) (nd zG (nd qP (ll w0 (le CV)) (le xT)) (nd wL (ll xk (le Dk)) (le Cy)))) (nd sN (nd y7 (nd tT (ll y7 (le CR)) (le xN)) (nd rj (ll y7 ao) (le Cu))) (nd y7 (nd y7 (ll sj (le yZ)) (le aZ)) (nd (rI P) ao (le (yz P)))))))) (nd (boot_o_5 P) (nd (boot_o_9 P) (nd o5 (nd rD (nd sP (nd tH (ll y7 ao) (le xx)) (nd q6 (ll sk (le C4)) ao)) (nd te (nd y7 (ll aZ (le yN)) ao) (nd y8 (ll xg (le zm)) ao))) (nd y7 (nd y7 (nd zX (ll wS (le (yJ P))) aC) (nd ra (ll y7 (le zh)) (le (Cq P)))) (nd tB (nd dZ (ll sg (le CY)) (le xV)) (nd y7 (le B5) (le CC))))) (nd y7 (nd y7 (nd sV (nd zR (ll y8 ao) ao) (nd wE (ll sC (le b0)) (le (yf P)))) (nd zE (nd wp (ll r3 (le yT)) (le Ce)) (nd ry (ll y7 (le zt)) (le yu)))) (nd yc (nd aZ (nd tR (ll rW (le (CQ P))) (le xL)) (nd y7 (ll y8 (le aZ)) (le yj))) (nd aZ (nd y8 (ll w6 (le yW)) (le xZ)) (nd rG (le xq) (le yx)))))) (nd o0 (nd o8 (nd y7 (nd sT (nd tJ (ll wQ (le CJ)) ao) (nd aZ (ll sz ao) (le Cm))) (nd dZ (nd y7 (ll wY (le yP)) ao) (nd ru (ll xi (le zo)) (le yp)))) (nd y7 (nd zw (nd y7 (ll y7 (le CO)) (le xH)) (nd y7 (ll BY (le zl)) (le Ct))) (nd tG (nd ww (ll y7 aC) (le xX)) (nd y7 aC (le yv))))) (nd y7 (nd sE (nd y7 (nd (zT P) (ll rR (le CN)) (le B9)) (nd q7 (ll y7 ao) (le Co))) (nd y8 (nd (qR P) (ll r7 ao) aC) (nd rA ao (le aZ)))) (nd y8 (nd zy (nd Aa (ll wV (le CT)) (le Cc)) (nd wJ (ll xe (le Dh)) (le yl))) (nd zN (nd qV (ll y8 (le zb)) ao) (nd rK (le xu) (le yC)))))))) (nd (o2 P) (nd (boot_o_4 P) (nd y8 (nd y8 (nd rt (nd yE (nd y8 (ll wP (le CG)) (le xw)) (nd (qY P) (ll w7 (le C3)) (le Ck))) (nd (s9 P) (nd (Ab P) (ll y7 aC) (le xO)) (nd y7 (ll y8 aC) (le ym)))) (nd sF (nd sY (nd zW (ll y8 (le yI)) ao) (nd q8 (ll BX (le zg)) (le aZ))) (nd zH (nd wt (ll se ao) (le Cf)) (nd rB ao (le CB))))) (nd o9 (nd sf (nd sU (nd tM (ll y7 (le b0)) (le xC)) (nd wD (ll sB (le C8)) (le ye))) (nd y7 (nd y7 (ll y8 (le yS)) ao) (nd y8 (ll xj (le zr)) (le yt)))) (nd y7 (nd s8 (nd tQ (ll rV (le aZ)) (le (xK P))) (nd ri (ll y7 ao) aC)) (nd dZ (nd y7 (ll y7 (le C2)) (le xY)) (nd rF (le B6) (le yw)))))) (nd (fp (nf (Gm []))) (nd o7 (nd rM (nd y8 (nd tI (ll y7 ao) (le xy)) (nd y7 (ll y8 (le (C5 P))) ao)) (nd zC (nd wn (ll wX (le yO)) (le xQ)) (nd wK (ll xh (le zn)) (le yo)))) (nd sH (nd y7 (nd tN (ll b0 (le yM)) (le Ca)) (nd rd (ll y7 (le zk)) (le Cs))) (nd (tF P) (nd y7 (ll w5 ao) aC) (nd rE ao aC)))) (nd qZ (nd sD (nd sW (nd aZ (ll wR ao) ao) (nd y8 (ll (BU P) (le ze)) (le yi))) (nd y7 (nd qQ (ll r6 (le CW)) ao) (nd rz (ll xl (le Dl)) ao))) (nd y7 (nd y8 (nd zZ (ll y8 (le CS)) (le Cb)) (nd y7 (ll BZ (le Dg)) (le yk))) (nd zM (nd wz (ll y7 (le (za P))) (le (Ch P))) (nd rJ aC (le yB))))))) (nd (boot_o_6 P) (nd (boot_o_10 P) (nd y7 (nd y7 (nd sQ (nd y7 (ll y8 (le aZ)) ao) (nd wA (ll sy ao) aC)) (nd th (nd Ac (ll (wW P) ao) (le Cd)) (nd rq (ll y7 ao) (le Cv)))) (nd xz (nd y8 (nd y7 (ll rT (le yK)) (le xG)) (nd y7 (ll y8 (le (zi P))) ao)) (nd tD (nd aZ (ll sh (le CZ)) (le xW)) (nd wM (le xn) (le CD))))) (nd wm (nd y8 (nd y7 (nd zS (ll rQ aC) aC) (nd wF (ll y7 ao) (le yg))) (nd zF (nd qO (ll y7 (le yU)) (le xS)) (nd y7 (ll B4 (le zu)) (le Cw)))) (nd sM (nd (zx P) (nd (tS P) (ll b0 ao) (le xM)) (nd y8 (ll xd (le (Df P))) ao)) (nd (zL P) (nd qU (ll si (le yX)) ao) (nd rH (le xr) (le yy)))))) (nd o1 (nd y7 (nd wT (nd y7 (nd tK (ll rO (le CK)) (le B8)) (nd (wC P) (ll y7 (le C6)) (le yb))) (nd aZ (nd y8 (ll wZ (le yQ)) aC) (nd rx (ll y7 (le zp)) (le (yq P))))) (nd y8 (nd s0 (nd zY (ll y8 (le CP)) (le xI)) (nd wI (ll xb (le Dd)) (le b0))) (nd zI (nd wx (ll y8 (le yV)) ao) (nd y8 (le xp) ao)))) (nd y8 (nd y7 (nd zv (nd y7 (ll rS (le yG)) (le xE)) (nd y7 (ll BV (le C9)) (le Cp))) (nd tw (nd qS (ll r8 (le aZ)) (le xU)) (nd y7 aC (le (Cz P))))) (nd sO (nd zA (nd dZ (ll rX (le b0)) ao) (nd rl (ll xf (le Di)) ao)) (nd zP (nd qW (ll y7 (le zc)) (le Ci)) (nd rL ao (le yD))))))))
def T3(P:Params):BT:=nd (boot_o_0 P) (nd (boot_o_1 P) (nd (di (E P "__name__" 165 lW::v7 P (BN P (Jm P 767 []))) 88) (nd y7 (nd y7 (nd wH (nd y7 (nd y7 (nd wO (le CF) (le El)) (nd B7 (le Du) (le Fh))) (nd qX (nd y7 (le zd) (le Kj)) (nd Cj (le DU) aC))) (nd y7 (nd aZ (nd rY ao (le Ew)) (nd y8 aC (le Fx))) (nd rp (nd y7 ao (le aZ)) (nd y8 (le D6) ao)))) (nd y8 (nd sX (nd zV (nd y7 (le yH) ao) (nd xF (le Dx) ao)) (nd wG (nd BW (le zf) (le Km)) (nd y7 ao (le FW)))) (nd y7 (nd wq (nd (r9 P) (le (CX P)) ao) (nd y7 ao (le KJ))) (nd y8 (nd xm (le (Jz P)) (le Fb)) (ll y7 (le J3)))))) (nd y8 (nd rZ (nd yY (nd (tL P) (nd rP (le CM) (le (J7 P))) (nd xB (le JI) (le Fl))) (nd y7 (nd w9 (le C7) (le EQ)) (nd yd (le DY) (le KP)))) (nd (zD P) (nd qN (nd y7 (le (yR P)) (le EB)) (nd xR (le DI) ao)) (nd y7 (nd y8 (le (zq P)) (le E5)) (nd yr (le Eb) aC)))) (nd sJ (nd s7 (nd tP (nd wU ao (le Kc)) (nd xJ ao aC)) (nd rh (nd xc (le De) ao) (nd y7 (le aZ) (le F0)))) (nd zK (nd wy (nd y7 ao aC) (nd Cg (le JR) (le FL))) (nd wN (nd y7 ao (le Kx)) (ll CE (le Eh))))))) (nd y7 (nd o6 (nd y8 (nd y7 (nd zQ (nd rN (le (CH P)) (le Em)) (nd y8 (le aZ) (le Fj))) (nd wB (nd y7 (le aZ) aC) (nd ya (le DW) (le FQ)))) (nd zB (nd Ae (nd y7 (le CU) (le Ey)) (nd xP (le DG) (le FA))) (nd y7 (nd B0 (le Dj) (le Ks)) (nd yn (le D8) (le KU))))) (nd sG (nd sZ (nd y8 (nd rU (le yL) ao) (nd y7 (le DB) (le KE))) (nd y8 (nd xa (le zj) ao) (nd Cr (le JV) (le FY)))) (nd tE (nd (wu P) (nd w4 (le C1) (le Kh)) (nd y7 ao aC)) (nd rC (nd xo (le JC) ao) (ll y7 aC))))) (nd qT (nd w8 (nd y8 (nd dZ (nd y7 (le yF) (le Ka)) (nd xD (le Dv) ao)) (nd y7 (nd aZ aC (le EU)) (nd yh ao aC))) (nd zG (nd qP (nd w0 (le CV) ao) (nd xT (le DL) ao)) (nd wL (nd xk (le Dk) (le E7)) (nd Cy ao (le Ga))))) (nd sN (nd y7 (nd tT (nd y7 (le CR) aC) (nd xN (le JN) (le Fu))) (nd rj (nd y7 ao (le Ko)) (nd Cu (le JY) ao))) (nd y7 (nd y7 (nd sj (le yZ) ao) (nd aZ aC (le KN))) (nd (rI P) (nd y7 (le Dp) aC) (ll (yz P) (le Ej)))))))) (nd (boot_o_5 P) (nd (boot_o_9 P) (nd o5 (nd rD (nd sP (nd tH (nd y7 ao aC) (nd xx (le JF) ao)) (nd q6 (nd sk (le C4) (le EO)) (nd y7 ao ao))) (nd te (nd y7 (nd aZ (le yN) ao) (nd y7 ao (le KH))) (nd y8 (nd xg (le zm) ao) (nd y7 (le J0) (le F6))))) (nd y7 (nd y7 (nd zX (nd wS (le (yJ P)) (le Ep)) (nd y8 (le (Dz P)) (le Fp))) (nd ra (nd y7 (le zh) aC) (nd (Cq P) (le D3) ao))) (nd tB (nd dZ (nd sg (le CY) (le EG)) (nd xV (le DN) (le FJ))) (nd y7 (nd B5 (le JA) (le Kv)) (ll CC (le Ef)))))) (nd y7 (nd y7 (nd sV (nd zR (nd y8 ao (le J8)) (nd y7 ao aC)) (nd wE (nd sC (le b0) (le ES)) (nd (yf P) aC (le FT)))) (nd zE (nd wp (nd r3 (le yT) aC) (nd Ce (le JP) (le FD))) (nd ry (nd y7 (le zt) (le Ku)) (nd yu (le J1) ao)))) (nd yc (nd aZ (nd tR (nd rW (le (CQ P)) (le Eu)) (nd xL ao ao)) (nd y7 (nd y8 (le aZ) (le E0)) (nd yj ao aC))) (nd aZ (nd y8 (nd w6 (le yW) (le EJ)) (nd xZ (le DR) ao)) (nd rG (nd xq (le Dn) (le Ff)) (ll yx ao)))))) (nd o0 (nd o8 (nd y7 (nd sT (nd tJ (nd wQ (le CJ) ao) (nd y7 ao (le KC))) (nd aZ (nd sz ao ao) (nd Cm (le JT) ao))) (nd dZ (nd y7 (nd wY (le yP) (le Ke)) (nd y7 ao aC)) (nd ru (nd xi (le zo) ao) (nd yp (le (Ea P)) (le F8))))) (nd y7 (nd zw (nd y7 (nd y7 (le CO) (le Es)) (nd xH (le JL) (le Fs))) (nd y7 (nd BY (le zl) (le EY)) (nd Ct (le D5) (le KR)))) (nd tG (nd ww (nd y7 aC (le EI)) (nd xX (le DP) ao)) (nd y7 (nd y8 aC (le Fd)) (ll yv ao))))) (nd y7 (nd sE (nd y7 (nd (zT P) (nd rR (le CN) aC) (nd B9 (le JK) (le Fn))) (nd q7 (nd y7 ao (le EW)) (nd Co (le D0) ao))) (nd y8 (nd (qR P) (nd r7 ao (le ED)) (nd y8 aC (le FF))) (nd rA (nd y7 ao (le (E9 P))) (ll aZ (le Ed))))) (nd y8 (nd zy (nd Aa (nd wV (le CT) ao) (nd Cc (le DE) ao)) (nd wJ (nd xe (le Dh) (le E4)) (nd yl ao (le F4)))) (nd zN (nd qV (nd y8 (le zb) (le EL)) (nd y7 ao (le FO))) (nd rK (nd xu (le Dr) ao) (ll yC (le J5))))))))) (nd (o2 P) (nd (boot_o_4 P) (nd y8 (nd y8 (nd rt (nd yE (nd y8 (nd wP (le CG) ao) (nd xw (le JE) (le Fi))) (nd (qY P) (nd w7 (le C3) (le EM)) (nd Ck (le DV) (le FP)))) (nd (s9 P) (nd (Ab P) (nd y7 aC (le Ex)) (nd xO (le DF) ao)) (nd y7 (nd y8 aC (le (Kq P))) (nd ym ao aC)))) (nd sF (nd sY (nd zW (nd y8 (le yI) (le Kb)) (nd y7 (le Dy) aC)) (nd q8 (nd BX (le zg) ao) (nd aZ aC (le FX)))) (nd zH (nd wt (nd se ao aC) (nd Cf (le JQ) (le FH))) (nd rB (nd y7 ao (le Fc)) (ll CB (le Ee)))))) (nd o9 (nd sf (nd sU (nd tM (nd y7 (le b0) ao) (nd xC (le JJ) ao)) (nd wD (nd sB (le C8) (le ER)) (nd ye ao (le FS)))) (nd y7 (nd y7 (nd y8 (le yS) ao) (nd y7 ao (le KI))) (nd y8 (nd xj (le zr) ao) (nd yt (le Ec) (le F9))))) (nd y7 (nd s8 (nd tQ (nd rV (le aZ) (le Et)) (nd (xK P) aC (le Ft))) (nd ri (nd y7 ao aC) (nd y8 (le (JW P)) ao))) (nd dZ (nd y7 (nd y7 (le C2) (le Ki)) (nd xY (le DQ) (le FM))) (nd rF (nd B6 (le JD) (le Fe)) (ll yw (le Ei))))))) (nd (fp (nf (Gm (oS [])))) (nd o7 (nd rM (nd y8 (nd tI (nd y7 ao (le En)) (nd xy (le (JG P)) ao)) (nd y7 (nd y8 (le (C5 P)) (le EP)) (nd y7 ao (le FR)))) (nd zC (nd wn (nd wX (le yO) ao) (nd xQ (le DH) ao)) (nd wK (nd xh (le zn) (le Kt)) (nd yo (le D9) (le F7))))) (nd sH (nd y7 (nd tN (nd b0 (le yM) aC) (nd Ca (le DC) (le Fq))) (nd rd (nd y7 (le zk) (le Kn)) (nd Cs (le D4) ao))) (nd (tF P) (nd y7 (nd w5 ao (le EH)) (nd y8 aC (le FK))) (nd rE (nd y7 ao aC) (ll y8 (le Eg)))))) (nd qZ (nd sD (nd sW (nd aZ (nd wR ao ao) (nd y7 ao (le KD))) (nd y8 (nd (BU P) (le ze) (le EV)) (nd yi (le JU) (le FU)))) (nd y7 (nd qQ (nd r6 (le CW) (le Kf)) (nd y7 ao aC)) (nd rz (nd xl (le Dl) (le E8)) (nd y7 aC (le Gb))))) (nd y7 (nd y8 (nd zZ (nd y8 (le CS) (le Ev)) (nd Cb (le DD) (le Fw))) (nd y7 (nd BZ (le Dg) (le E3)) (nd yk (le JZ) (le KS)))) (nd zM (nd wz (nd y7 (le (za P)) aC) (nd (Ch P) (le DT) (le FN))) (nd rJ (nd y8 (le (Dq P)) (le Fg)) (ll yB ao))))))) (nd (boot_o_6 P) (nd (boot_o_10 P) (nd y7 (nd y7 (nd sQ (nd y7 (nd y8 (le aZ) (le J6)) (nd y7 ao aC)) (nd wA (nd sy ao ao) (nd y8 aC (le KO)))) (nd th (nd Ac (nd (wW P) ao aC) (nd Cd (le JO) (le Fy))) (nd rq (nd y7 ao (le Kr)) (nd Cv (le D7) ao)))) (nd xz (nd y8 (nd y7 (nd rT (le yK) (le Er)) (nd xG (le DA) ao)) (nd y7 (nd y8 (le (zi P)) (le EX)) (nd y7 ao aC))) (nd tD (nd aZ (nd sh (le CZ) ao) (nd xW (le DO) ao)) (nd wM (nd xn (le JB) (le Kw)) (ll CD ao))))) (nd wm (nd y8 (nd y7 (nd zS (nd rQ aC (le J9)) (nd y8 aC (le Fm))) (nd wF (nd y7 ao (le (ET P))) (nd yg (le DZ) ao))) (nd zF (nd qO (nd y7 (le yU) (le EC)) (nd xS (le DJ) (le FE))) (nd y7 (nd B4 (le zu) (le E6)) (nd Cw (le J2) (le KV))))) (nd sM (nd (zx P) (nd (tS P) (nd b0 ao ao) (nd xM ao (le KG))) (nd y8 (nd xd (le (Df P)) ao) (nd y7 (le JX) (le F3)))) (nd (zL P) (nd qU (nd si (le yX) (le EK)) (nd y7 ao aC)) (nd rH (nd xr (le Do) ao) (ll yy aC)))))) (nd o1 (nd y7 (nd wT (nd y7 (nd tK (nd rO (le CK) (le aZ)) (nd B8 (le JH) (le Fk))) (nd (wC P) (nd y7 (le C6) (le Kk)) (nd yb (le DX) aC))) (nd aZ (nd y8 (nd wZ (le yQ) (le EA)) (nd y8 aC (le FC))) (nd rx (nd y7 (le zp) aC) (nd (yq P) (le (⟨.type "type",none,.cls ⟨(q "Dispatch"),[.type "object"],[R 742,.type "object"],741,(q "Dispatch"),true,[],[],false,none,false⟩,#[none,none,(some (S "Dispatch" 1191)),(some (S "Dispatch" 1199)),(some (.builtin "object.__new__")),(some (.bool true))]⟩)) ao)))) (nd y8 (nd s0 (nd zY (nd y8 (le CP) ao) (nd xI (le JM) ao)) (nd wI (nd xb (le Dd) (le EZ)) (nd b0 ao (le FZ)))) (nd zI (nd wx (nd y8 (le yV) ao) (nd y7 ao (le KL))) (nd y8 (nd xp (le Dm) ao) (ll y7 (le J4)))))) (nd y8 (nd y7 (nd zv (nd y7 (nd rS (le yG) (le Eo)) (nd xE (le Dw) (le Fo))) (nd y7 (nd BV (le C9) (le Kl)) (nd Cp (le D2) (le KQ)))) (nd tw (nd qS (nd r8 (le aZ) (le EF)) (nd xU (le DM) ao)) (nd y7 (nd y8 (le aZ) (le Fa)) (ll (Cz P) ao)))) (nd sO (nd zA (nd dZ (nd rX (le b0) (le Kd)) (nd y7 ao aC)) (nd rl (nd xf (le Di) ao) (nd y7 aC (le F5)))) (nd zP (nd qW (nd y7 (le zc) ao) (nd Ci (le JS) ao)) (nd rL (nd y7 (le Dt) (le Ky)) (ll yD (le Ek)))))))))
def T4(P:Params):BT:=nd (boot_o_0 P) (nd (boot_o_1 P) (nd (di (E P "__name__" 165 gE::v7 P (BN P (Jm P 1453 (SV P [])))) 123) (nd y7 (nd y7 (nd wH (nd y7 (nd y7 (nd wO (ll CF (le (bi 1021))) (ll El (le M4))) (nd B7 (ll Du (le (fo (sA 110) "lookup"))) (ll Fh ao))) (nd qX (nd y7 (ll zd (le (fo (sA 99) "b_setClass"))) (ll Kj (le (fo (cA 123 13) "Evaluator.eval_call")))) (nd Cj (ll DU (le ME)) aC))) (nd y7 (nd aZ (nd rY (ll y7 (le Ll)) (ll Ew aC)) (nd y8 (ll y8 ao) (ll Fx (le Og)))) (nd rp (nd y7 (ll y7 (le LV)) (ll aZ ao)) (nd y8 (ll D6 (le MN)) ao)))) (nd y8 (nd sX (nd zV (nd y7 (ll yH ao) (ll y7 (le Nb))) (nd xF (ll Dx (le Mk)) (ll y7 (le N9)))) (nd wG (nd BW (ll zf aC) (ll Km (le NE))) (nd y7 (ll y7 (le (MJ P))) (le FW)))) (nd y7 (nd wq (nd (r9 P) (ll (CX P) (le Ls)) (ll y7 (le Np))) (nd y7 (ll y7 (le (fo (sA 118) "is_dots_place"))) (ll KJ aC))) (nd y8 (nd xm (ll (Jz P) ao) (ll Fb (le NS))) (nd y7 (ll J3 ao) (le (ca P 1615 lW "S4Dispatch" (Hd P []) 5))))))) (nd y8 (nd rZ (nd yY (nd (tL P) (nd rP (ll CM (le La)) (ll (J7 P) (le M7))) (nd xB (ll JI (le Mg)) (ll Fl (le (fo (cA 123 23) "Evaluator.run_exits"))))) (nd y7 (nd w9 (ll C7 ao) (ll EQ (le NA))) (nd yd (ll DY ao) (le KP)))) (nd (zD P) (nd qN (nd y7 (ll (yR P) aC) (ll EB (le Nm))) (nd xR (ll DI ao) (ll y7 ao))) (nd y7 (nd y8 (ll (zq P) (le LZ)) (ll E5 aC)) (nd yr (ll Eb ao) aC)))) (nd sJ (nd s7 (nd tP (nd wU (ll y7 (le (fo (sA 93) "one_name"))) (ll Kc ao)) (nd xJ (ll y7 ao) (ll y8 (le Oc)))) (nd rh (nd xc (ll De (le LR)) (ll y7 (le NI))) (nd y7 (ll aZ (le (ca P 1959 cW "Evaluator" (Hf P []) 31))) (le F0)))) (nd zK (nd wy (nd y7 (ll y7 (le LA)) (ll y8 ao)) (nd Cg (ll JR (le MA)) (ll FL (le Ou)))) (nd wN (nd y7 (ll y7 ao) (ll Kx (le NV))) (nd CE (ll Eh (le (fo (cA 123 3) "Evaluator.tick"))) ao)))))) (nd y7 (nd o6 (nd y8 (nd y7 (nd zQ (nd rN (ll (CH P) (le K8)) (ll Em aC)) (nd y8 (ll aZ aC) (ll Fj ao))) (nd wB (nd y7 (ll aZ aC) (ll y8 aC)) (nd ya (ll DW ao) (le FQ)))) (nd zB (nd Ae (nd y7 (ll CU (le (fo (sA 95) "class_parts"))) (ll Ey (le Nk))) (nd xP (ll DG (le Ms)) (ll FA (le Ok)))) (nd y7 (nd B0 (ll Dj (le LX)) (ll Ks (le (fo (cA 123 18) "Evaluator.empty_arg")))) (nd yn (ll D8 (le MP)) (le KU))))) (nd sG (nd sZ (nd y8 (nd rU (ll yL ao) (ll y7 ao)) (nd y7 (ll DB ao) (ll KE aC))) (nd y8 (nd xa (ll zj (le LP)) (ll y7 ao)) (nd Cr (ll JV (le (su 1232))) (le FY)))) (nd tE (nd (wu P) (nd w4 (ll C1 (le Lv)) (ll Kh (le Nr))) (nd y7 (ll y7 aC) (ll y8 (le Oq)))) (nd rC (nd xo (ll JC (le L8)) (ll y7 (le NU))) (nd y7 (ll y8 ao) (le (fr 1010 1007 lW))))))) (nd qT (nd w8 (nd y8 (nd dZ (nd y7 (ll yF (le Lc)) (ll Ka (le M9))) (nd xD (ll Dv (le Mi)) (ll y7 aC))) (nd y7 (nd aZ (ll y8 (le (fo (sA 101) "new_object"))) (ll EU (le NC))) (nd yh (ll y7 (le (fo (cA 122 0) "Frame.__init__"))) aC))) (nd zG (nd qP (nd w0 (ll CV (le Lq)) (ll y7 (le No))) (nd xT (ll DL ao) (ll y7 (le (fo (sA 124) "quoted_call"))))) (nd wL (nd xk (ll Dk ao) (ll E7 (le NQ))) (nd Cy (ll y7 (le MT)) (le Ga))))) (nd sN (nd y7 (nd tT (nd y7 (ll CR aC) (ll y8 (le (fo (cA 123 8) "Evaluator.variable")))) (nd xN (ll JN (le (fo (sA 115) "default_binding"))) (ll Fu (le Oe)))) (nd rj (nd y7 (ll y7 (le LU)) (ll Ko ao)) (nd Cu (ll JY (le (fr 1242 1239 cW))) ao))) (nd y7 (nd y7 (nd sj (ll yZ ao) (ll y7 ao)) (nd aZ (ll y8 (le MC)) (ll KN (le Ow)))) (nd (rI P) (nd y7 (ll Dp ao) (ll y8 (le NX))) (nd (yz P) (ll Ej aC) (le K5)))))))) (nd (boot_o_5 P) (nd (boot_o_9 P) (nd o5 (nd rD (nd sP (nd tH (nd y7 (ll y7 aC) (ll y8 (le b0))) (nd xx (ll JF (le Me)) (ll y7 (le NZ)))) (nd q6 (nd sk (ll C4 (le LH)) (ll EO (le Ny))) (nd y7 (ll y7 (le aZ)) ao))) (nd te (nd y7 (nd aZ (ll yN ao) (ll y7 ao)) (nd y7 (ll y7 (le (fo (sA 116) "bind_formals"))) (ll KH (le (Oi P))))) (nd y8 (nd xg (ll zm ao) (ll y7 (le NM))) (nd y7 (ll J0 (le (fo (cA 123 0) "Evaluator.__init__"))) (le F6))))) (nd y7 (nd y7 (nd zX (nd wS (ll (yJ P) (le Le)) (ll Ep aC)) (nd y8 (ll (Dz P) aC) (ll Fp (le b0)))) (nd ra (nd y7 (ll zh ao) (ll y8 aC)) (nd (Cq P) (ll D3 (le ML)) ao))) (nd tB (nd dZ (nd sg (ll CY (le (fo (sA 97) "check_prototype"))) (ll EG (le (fo (cA 123 11) "Evaluator.find_function")))) (nd xV (ll DN (le My)) (ll FJ ao))) (nd y7 (nd B5 (ll JA (le (fo (sA 107) "b_slotNames"))) (ll Kv (le (fo (cA 123 20) "Evaluator.call_builtin")))) (nd CC (ll Ef (le MV)) (le (fp (K4 705 1017<|[])))))))) (nd y7 (nd y7 (nd sV (nd zR (nd y8 (ll y7 (le (fo (sA 90) "initialized"))) (ll J8 ao)) (nd y7 (ll y7 ao) (ll y8 (le N6)))) (nd wE (nd sC (ll b0 (le LL)) (ll ES ao)) (nd (yf P) (ll y8 (le MF)) (le FT)))) (nd zE (nd wp (nd r3 (ll yT ao) (ll y8 (le (fo (cA 123 10) "Evaluator.force")))) (nd Ce (ll JP (le Mu)) (ll FD (le Om)))) (nd ry (nd y7 (ll zt aC) (ll Ku ao)) (nd yu (ll J1 (le MR)) ao)))) (nd yc (nd aZ (nd tR (nd rW (ll (CQ P) (le Li)) (ll Eu (le Ng))) (nd xL (ll y7 (le Mo)) (ll y7 ao))) (nd y7 (nd y8 (ll aZ (le (fo (sA 103) "b_isVirtualClass"))) (ll E0 aC)) (nd yj (ll y7 (le TN)) aC))) (nd aZ (nd y8 (nd w6 (ll yW (le LB)) (ll EJ (le Nu))) (nd xZ (ll DR ao) (ll y7 (le (fo (sA 128) "_law_pip"))))) (nd rG (nd xq (ll Dn (le Ma)) (ll Ff (le (fo (cA 123 21) "Evaluator.apply_closure")))) (nd yx (ll y7 (le MZ)) (le K0))))))) (nd o0 (nd o8 (nd y7 (nd sT (nd tJ (nd wQ (ll CJ ao) (ll y7 ao)) (nd y7 (ll y7 ao) (ll KC (le N4)))) (nd aZ (nd sz (ll y7 (le LJ)) (ll y7 ao)) (nd Cm (ll JT (le (cq "Frame" 1915 920 1219 1918))) ao))) (nd dZ (nd y7 (nd wY (ll yP (le Lo)) (ll Ke ao)) (nd y7 (ll y7 aC) (ll y8 (le (su 1442))))) (nd ru (nd xi (ll zo (le (fo (sA 105) "b_extends"))) (ll y7 (le NO))) (nd yp (ll (Ea P) aC) (le F8))))) (nd y7 (nd zw (nd y7 (nd y7 (ll CO (le Lg)) (ll Es (le Nd))) (nd xH (ll JL (le Mm)) (ll Fs ao))) (nd y7 (nd BY (ll zl ao) (ll EY (le NG))) (nd Ct (ll D5 ao) (le KR)))) (nd tG (nd ww (nd y7 (ll y8 aC) (ll EI aC)) (nd xX (ll DP ao) (ll y7 ao))) (nd y7 (nd y8 (ll y8 aC) (ll Fd ao)) (nd yv (ll y7 (le MX)) aC))))) (nd y7 (nd sE (nd y7 (nd (zT P) (nd rR (ll CN aC) (ll y8 (le (fo (cA 123 6) "Evaluator.running_call")))) (nd B9 (ll JK (le (fo (sA 113) "bound_argument"))) (ll Fn (le N8)))) (nd q7 (nd y7 (ll y7 (le LN)) (ll EW (le (fo (cA 123 15) "Evaluator.spread_dots")))) (nd Co (ll D0 (le MH)) ao))) (nd y8 (nd (qR P) (nd r7 (ll y7 ao) (ll ED ao)) (nd y8 (ll y8 (le Mw)) (ll FF (le Oo)))) (nd rA (nd y7 (ll y7 (le L5)) (ll (E9 P) ao)) (nd aZ (ll Ed aC) (le KY))))) (nd y8 (nd zy (nd Aa (nd wV (ll CT ao) (ll y7 (le Ni))) (nd Cc (ll DE (le Mq)) (ll y7 (le (fo (cA 123 26) "Evaluator.run"))))) (nd wJ (nd xe (ll Dh aC) (ll E4 (le NK))) (nd yl (ll y7 ao) (le F4)))) (nd zN (nd qV (nd y8 (ll zb (le LD)) (ll EL (le Nw))) (nd y7 (ll y7 (le (fo (sA 120) "is_empty_name"))) (le FO))) (nd rK (nd xu (ll Dr (le Mc)) (ll y7 aC)) (nd yC (ll J5 ao) (le K7))))))))) (nd (o2 P) (nd (boot_o_4 P) (nd y8 (nd y8 (nd rt (nd yE (nd y8 (nd wP (ll CG ao) (ll y7 (le M5))) (nd xw (ll JE (le Md)) (ll Fi (le (fo (cA 123 22) "Evaluator.leave"))))) (nd (qY P) (nd w7 (ll C3 (le LG)) (ll EM (le Nx))) (nd Ck (ll DV ao) (le FP)))) (nd (s9 P) (nd (Ab P) (nd y7 (ll y8 (le Lm)) (ll Ex (le Nj))) (nd xO (ll DF aC) (ll y7 (le Oh)))) (nd y7 (nd y8 (ll y8 (le LW)) (ll (Kq P) aC)) (nd ym (ll y7 ao) aC)))) (nd sF (nd sY (nd zW (nd y8 (ll yI (le (fo (sA 92) "quiet"))) (ll Kb ao)) (nd y7 (ll Dy ao) (ll y8 (le Oa)))) (nd q8 (nd BX (ll zg (le LO)) (ll y7 ao)) (nd aZ (ll y8 (le MK)) (le FX)))) (nd zH (nd wt (nd se (ll y7 ao) (ll y8 ao)) (nd Cf (ll JQ (le Mx)) (ll FH (le Op)))) (nd rB (nd y7 (ll y7 aC) (ll Fc ao)) (nd CB (ll Ee (le (fo (cA 123 2) "Evaluator.define"))) ao))))) (nd o9 (nd sf (nd sU (nd tM (nd y7 (ll b0 ao) (ll y7 (le M8))) (nd xC (ll JJ (le Mh)) (ll y7 (le N5)))) (nd wD (nd sB (ll C8 aC) (ll ER (le NB))) (nd ye (ll y7 aC) (le FS)))) (nd y7 (nd y7 (nd y8 (ll yS (le Lp)) (ll y7 ao)) (nd y7 (ll y7 (le (fo (sA 117) "dots_of"))) (ll KI aC))) (nd y8 (nd xj (ll zr ao) (ll y7 (le NP))) (nd yt (ll Ec (le (fo (cA 123 1) "Evaluator.new_env"))) (le F9))))) (nd y7 (nd s8 (nd tQ (nd rV (ll aZ (le Lh)) (ll Et aC)) (nd (xK P) (ll y8 aC) (ll Ft (le Od)))) (nd ri (nd y7 (ll y7 ao) (ll y8 ao)) (nd y8 (ll (JW P) ao) ao))) (nd dZ (nd y7 (nd y7 (ll C2 (le (fo (sA 98) "generator"))) (ll Ki (le (fo (cA 123 12) "Evaluator.function_of")))) (nd xY (ll DQ (le MB)) (ll FM ao))) (nd rF (nd B6 (ll JD (le (fo (sA 109) "lookup_here"))) (ll Fe ao)) (nd yw (ll Ei (le MY)) (le (fo (cA 88 0) "S4Dispatch.__init__")))))))) (nd (fp (nf (Gm (oS (O3 []))))) (nd o7 (nd rM (nd y8 (nd tI (nd y7 (ll y7 (le K9)) (ll En (le M6))) (nd xy (ll (JG P) (le Mf)) (ll y7 aC))) (nd y7 (nd y8 (ll (C5 P) (le (fo (sA 100) "b_setClassUnion"))) (ll EP (le Nz))) (nd y7 (ll y7 (le (fp (K4 922 1228<|[])))) (le FR)))) (nd zC (nd wn (nd wX (ll yO (le Ln)) (ll y7 (le Nl))) (nd xQ (ll DH ao) (ll y7 (le Ol)))) (nd wK (nd xh (ll zn ao) (ll Kt (le NN))) (nd yo (ll D9 ao) (le F7))))) (nd sH (nd y7 (nd tN (nd b0 (ll yM aC) (ll y8 (le (fo (cA 123 7) "Evaluator.eval")))) (nd Ca (ll DC (le (fo (sA 114) "dots_argument"))) (ll Fq (le Ob)))) (nd rd (nd y7 (ll zk (le LQ)) (ll Kn (le (fo (cA 123 16) "Evaluator.promise_args")))) (nd Cs (ll D4 (le (bi 1232))) ao))) (nd (tF P) (nd y7 (nd w5 (ll y7 ao) (ll EH ao)) (nd y8 (ll y8 (le Mz)) (ll FK (le Ot)))) (nd rE (nd y7 (ll y7 ao) (ll y8 (le b0))) (nd y8 (ll Eg aC) ao))))) (nd qZ (nd sD (nd sW (nd aZ (nd wR (ll y7 ao) (ll y7 ao)) (nd y7 (ll y7 ao) (ll KD (le N7)))) (nd y8 (nd (BU P) (ll ze (le LM)) (ll EV ao)) (nd yi (ll JU (le MG)) (le FU)))) (nd y7 (nd qQ (nd r6 (ll CW (le Lr)) (ll Kf (le b0))) (nd y7 (ll y7 aC) (ll y8 (le On)))) (nd rz (nd xl (ll Dl (le (fo (sA 106) "slot_rows"))) (ll E8 (le NR))) (nd y7 (ll y8 ao) (le Gb))))) (nd y7 (nd y8 (nd zZ (nd y8 (ll CS (le Lj)) (ll Ev (le Nh))) (nd Cb (ll DD (le Mp)) (ll Fw ao))) (nd y7 (nd BZ (ll Dg ao) (ll E3 (le (fo (cA 123 17) "Evaluator.eager_args")))) (nd yk (ll JZ (le Gc)) (le KS)))) (nd zM (nd wz (nd y7 (ll (za P) aC) (ll y8 aC)) (nd (Ch P) (ll DT ao) (le FN))) (nd rJ (nd y8 (ll (Dq P) aC) (ll Fg ao)) (nd yB (ll y7 (le M3)) (le (K6 P))))))))) (nd (boot_o_6 P) (nd (boot_o_10 P) (nd y7 (nd y7 (nd sQ (nd y7 (nd y8 (ll aZ (le (fo (sA 89) "call_s4_method"))) (ll J6 ao)) (nd y7 (ll y7 ao) (ll y8 (le N2)))) (nd wA (nd sy (ll y7 ao) (ll y7 ao)) (nd y8 (ll y8 (le (ca P 1920 cW "Frame" (He P []) 5))) (le KO)))) (nd th (nd Ac (nd (wW P) (ll y7 aC) (ll y8 (le (fo (cA 123 9) "Evaluator.dots_value")))) (nd Cd (ll JO (le Mr)) (ll Fy (le Oj)))) (nd rq (nd y7 (ll y7 aC) (ll Kr ao)) (nd Cv (ll D7 (le MO)) ao)))) (nd xz (nd y8 (nd y7 (nd rT (ll yK (le Lf)) (ll Er (le Nc))) (nd xG (ll DA (le Ml)) (ll y7 ao))) (nd y7 (nd y8 (ll (zi P) (le (fo (sA 102) "split_first"))) (ll EX (le NF))) (nd y7 (ll y7 (le MM)) aC))) (nd tD (nd aZ (nd sh (ll CZ (le Lu)) (ll y7 (le Nq))) (nd xW (ll DO ao) (ll y7 (le (fo (sA 127) "_law_pips"))))) (nd wM (nd xn (ll JB (le L7)) (ll Kw (le NT))) (nd CD (ll y7 (le MW)) (le (cq "S4Dispatch" 1610 703 1008 1613))))))) (nd wm (nd y8 (nd y7 (nd zS (nd rQ (ll y8 (le Lb)) (ll J9 aC)) (nd y8 (ll y8 aC) (ll Fm ao))) (nd wF (nd y7 (ll y7 ao) (ll (ET P) aC)) (nd yg (ll DZ ao) ao))) (nd zF (nd qO (nd y7 (ll yU (le (fo (sA 96) "prototype_parts"))) (ll EC (le Nn))) (nd xS (ll DJ (le Mv)) (ll FE ao))) (nd y7 (nd B4 (ll zu (le L4)) (ll E6 (le (fo (cA 123 19) "Evaluator.call_special")))) (nd Cw (ll J2 (le MS)) (le KV))))) (nd sM (nd (zx P) (nd (tS P) (nd b0 (ll y7 ao) (ll y7 ao)) (nd xM (ll y7 ao) (ll KG aC))) (nd y8 (nd xd (ll (Df P) (le LS)) (ll y7 (le NJ))) (nd y7 (ll JX (le (cq "Evaluator" 1954 930 1240 1957))) (le F3)))) (nd (zL P) (nd qU (nd si (ll yX (le LC)) (ll EK (le Nv))) (nd y7 (ll y7 aC) (ll y8 (le Ov)))) (nd rH (nd xr (ll Do (le Mb)) (ll y7 (le NW))) (nd yy (ll y8 ao) (le K3))))))) (nd o1 (nd y7 (nd wT (nd y7 (nd tK (nd rO (ll CK aC) (ll aZ (le (fo (cA 123 5) "Evaluator.warn_all")))) (nd B8 (ll JH (le (fo (sA 112) "done_promise"))) (ll Fk ao))) (nd (wC P) (nd y7 (ll C6 (le LK)) (ll Kk (le (fo (cA 123 14) "Evaluator.plain_call")))) (nd yb (ll DX (le (fr 1221 1218 cW))) aC))) (nd aZ (nd y8 (nd wZ (ll yQ ao) (ll EA aC)) (nd y8 (ll y8 (le Mt)) (ll FC (le (bi 1442))))) (nd rx (nd y7 (ll zp (le LY)) (ll y8 ao)) (nd (yq P) (ll KW (le MQ)) ao)))) (nd y8 (nd s0 (nd zY (nd y8 (ll CP ao) (ll y7 (le Nf))) (nd xI (ll JM (le Mn)) (ll y7 (le (fo (cA 123 25) "Evaluator.call_value"))))) (nd wI (nd xb (ll Dd aC) (ll EZ (le NH))) (nd b0 (ll y7 (le aZ)) (le FZ)))) (nd zI (nd wx (nd y8 (ll yV (le Ly)) (ll y7 (le Nt))) (nd y7 (ll y7 (le (fo (sA 119) "dots_place"))) (ll KL aC))) (nd y8 (nd xp (ll Dm (le L9)) (ll y7 aC)) (nd y7 (ll J4 ao) (le KZ)))))) (nd y8 (nd y7 (nd zv (nd y7 (nd rS (ll yG (le Ld)) (ll Eo (le Na))) (nd xE (ll Dw (le Mj)) (ll Fo (le (fo (cA 123 24) "Evaluator.shower"))))) (nd y7 (nd BV (ll C9 ao) (ll Kl (le ND))) (nd Cp (ll D2 (le MI)) (le KQ)))) (nd tw (nd qS (nd r8 (ll aZ aC) (ll EF aC)) (nd xU (ll DM ao) (ll y7 ao))) (nd y7 (nd y8 (ll aZ (le L6)) (ll Fa aC)) (nd (Cz P) (ll y7 (le MU)) (le aZ))))) (nd sO (nd zA (nd dZ (nd rX (ll b0 (le (fo (sA 94) "text_pairs"))) (ll Kd ao)) (nd y7 (ll y7 (le b0)) (ll y8 (le Of)))) (nd rl (nd xf (ll Di (le (fo (sA 104) "b_is"))) (ll y7 (le NL))) (nd y7 (ll y8 aC) (le F5)))) (nd zP (nd qW (nd y7 (ll zc ao) (ll y7 ao)) (nd Ci (ll JS (le MD)) ao)) (nd rL (nd y7 (ll Dt ao) (ll Ky (le NY))) (nd yD (ll Ek (le (fo (cA 123 4) "Evaluator.signal_error"))) (le (su 1021))))))))))
def T5(P:Params):BT:=nd (boot_o_0 P) (nd (boot_o_1 P) (nd (TO P) (nd y7 (nd y7 (nd wH (nd y7 (nd y7 (nd wO (ll CF (le (bi 1021))) (ll El (le M4))) (nd B7 (ll Du (le (fo (sA 110) "lookup"))) (ll Fh ao))) (nd qX (nd y7 (ll zd (le (fo (sA 99) "b_setClass"))) (ll Kj (le (fo (cA 123 13) "Evaluator.eval_call")))) (nd Cj (ll DU (le ME)) (ll y8 ao)))) (nd y7 (nd aZ (nd rY (ll y7 (le Ll)) (ll Ew aC)) (nd y8 (ll y8 ao) (ll Fx (le Og)))) (nd rp (nd y7 (ll y7 (le LV)) (ll aZ ao)) (nd y8 (ll D6 (le MN)) (ll y7 ao))))) (nd y8 (nd sX (nd zV (nd y7 (ll yH ao) (ll y7 (le Nb))) (nd xF (ll Dx (le Mk)) (ll y7 (le N9)))) (nd wG (nd BW (ll zf aC) (ll Km (le NE))) (nd y7 (ll y7 (le (MJ P))) (ll FW (le (co "_law_is_known" "_law_is_known" 2336 1251 2 3 1482 2341)))))) (nd y7 (nd wq (nd (r9 P) (ll (CX P) (le Ls)) (ll y7 (le Np))) (nd y7 (ll y7 (le (fo (sA 118) "is_dots_place"))) (ll KJ aC))) (nd y8 (nd xm (ll (Jz P) ao) (ll Fb (le NS))) (nd y7 (ll J3 ao) (le (ca P 1615 lW "S4Dispatch" (Hd P []) 5))))))) (nd y8 (nd rZ (nd yY (nd (tL P) (nd rP (ll CM (le La)) (ll (J7 P) (le M7))) (nd xB (ll JI (le Mg)) (ll Fl (le (fo (cA 123 23) "Evaluator.run_exits"))))) (nd y7 (nd w9 (ll C7 ao) (ll EQ (le NA))) (nd yd (ll DY ao) (ll KP (le (fo (sA 130) "_law_above")))))) (nd (zD P) (nd qN (nd y7 (ll (yR P) aC) (ll EB (le Nm))) (nd xR (ll DI ao) (ll y7 ao))) (nd y7 (nd y8 (ll (zq P) (le LZ)) (ll E5 aC)) (nd yr (ll Eb ao) (ll y8 (le (cp "_law_slots_of" "_law_slots_of" 2376 1318 2 3 1508 2379))))))) (nd sJ (nd s7 (nd tP (nd wU (ll y7 (le (fo (sA 93) "one_name"))) (ll Kc ao)) (nd xJ (ll y7 ao) (ll y8 (le Oc)))) (nd rh (nd xc (ll De (le LR)) (ll y7 (le NI))) (nd y7 (ll aZ (le (ca P 1959 cW "Evaluator" (Hf P []) 31))) (ll F0 (le (fu (sA 132) "_law_due" gE 1494)))))) (nd zK (nd wy (nd y7 (ll y7 (le LA)) (ll y8 ao)) (nd Cg (ll JR (le MA)) (ll FL (le Ou)))) (nd wN (nd y7 (ll y7 ao) (ll Kx (le NV))) (nd CE (ll Eh (le (fo (cA 123 3) "Evaluator.tick"))) ao)))))) (nd y7 (nd o6 (nd y8 (nd y7 (nd zQ (nd rN (ll (CH P) (le K8)) (ll Em aC)) (nd y8 (ll aZ aC) (ll Fj ao))) (nd wB (nd y7 (ll aZ aC) (ll y8 aC)) (nd ya (ll DW ao) (ll FQ ao)))) (nd zB (nd Ae (nd y7 (ll CU (le (fo (sA 95) "class_parts"))) (ll Ey (le Nk))) (nd xP (ll DG (le Ms)) (ll FA (le Ok)))) (nd y7 (nd B0 (ll Dj (le LX)) (ll Ks (le (fo (cA 123 18) "Evaluator.empty_arg")))) (nd yn (ll D8 (le MP)) (ll KU (le (fu (sA 134) "law" gE 1506))))))) (nd sG (nd sZ (nd y8 (nd rU (ll yL ao) (ll y7 ao)) (nd y7 (ll DB ao) (ll KE aC))) (nd y8 (nd xa (ll zj (le LP)) (ll y7 ao)) (nd Cr (ll JV (le (su 1232))) (ll FY (le TR))))) (nd tE (nd (wu P) (nd w4 (ll C1 (le Lv)) (ll Kh (le Nr))) (nd y7 (ll y7 aC) (ll y8 (le Oq)))) (nd rC (nd xo (ll JC (le L8)) (ll y7 (le NU))) (nd y7 (ll y8 ao) (le (fr 1010 1007 lW))))))) (nd qT (nd w8 (nd y8 (nd dZ (nd y7 (ll yF (le Lc)) (ll Ka (le M9))) (nd xD (ll Dv (le Mi)) (ll y7 aC))) (nd y7 (nd aZ (ll y8 (le (fo (sA 101) "new_object"))) (ll EU (le NC))) (nd yh (ll y7 (le (fo (cA 122 0) "Frame.__init__"))) (ll y8 aC)))) (nd zG (nd qP (nd w0 (ll CV (le Lq)) (ll y7 (le No))) (nd xT (ll DL ao) (ll y7 (le (fo (sA 124) "quoted_call"))))) (nd wL (nd xk (ll Dk ao) (ll E7 (le NQ))) (nd Cy (ll y7 (le MT)) (le Ga))))) (nd sN (nd y7 (nd tT (nd y7 (ll CR aC) (ll y8 (le (fo (cA 123 8) "Evaluator.variable")))) (nd xN (ll JN (le (fo (sA 115) "default_binding"))) (ll Fu (le Oe)))) (nd rj (nd y7 (ll y7 (le LU)) (ll Ko ao)) (nd Cu (ll JY (le (fr 1242 1239 cW))) (ll y7 ao)))) (nd y7 (nd y7 (nd sj (ll yZ ao) (ll y7 ao)) (nd aZ (ll y8 (le MC)) (ll KN (le Ow)))) (nd (rI P) (nd y7 (ll Dp ao) (ll y8 (le NX))) (nd (yz P) (ll Ej aC) (le K5)))))))) (nd (boot_o_5 P) (nd (boot_o_9 P) (nd o5 (nd rD (nd sP (nd tH (nd y7 (ll y7 aC) (ll y8 (le b0))) (nd xx (ll JF (le Me)) (ll y7 (le NZ)))) (nd q6 (nd sk (ll C4 (le LH)) (ll EO (le Ny))) (nd y7 (ll y7 (le aZ)) (ll y7 (le (co "_law_word" "_law_word" 2315 1237 1 3 1468 2319)))))) (nd te (nd y7 (nd aZ (ll yN ao) (ll y7 ao)) (nd y7 (ll y7 (le (fo (sA 116) "bind_formals"))) (ll KH (le (Oi P))))) (nd y8 (nd xg (ll zm ao) (ll y7 (le NM))) (nd y7 (ll J0 (le (fo (cA 123 0) "Evaluator.__init__"))) (ll F6 (le (fo (sA 134) "law"))))))) (nd y7 (nd y7 (nd zX (nd wS (ll (yJ P) (le Le)) (ll Ep aC)) (nd y8 (ll (Dz P) aC) (ll Fp (le b0)))) (nd ra (nd y7 (ll zh ao) (ll y8 aC)) (nd (Cq P) (ll D3 (le ML)) (ll y7 ao)))) (nd tB (nd dZ (nd sg (ll CY (le (fo (sA 97) "check_prototype"))) (ll EG (le (fo (cA 123 11) "Evaluator.find_function")))) (nd xV (ll DN (le My)) (ll FJ ao))) (nd y7 (nd B5 (ll JA (le (fo (sA 107) "b_slotNames"))) (ll Kv (le (fo (cA 123 20) "Evaluator.call_builtin")))) (nd CC (ll Ef (le MV)) (le (fp (K4 705 1017<|[])))))))) (nd y7 (nd y7 (nd sV (nd zR (nd y8 (ll y7 (le (fo (sA 90) "initialized"))) (ll J8 ao)) (nd y7 (ll y7 ao) (ll y8 (le N6)))) (nd wE (nd sC (ll b0 (le LL)) (ll ES ao)) (nd (yf P) (ll y8 (le MF)) (ll FT (le (fu (sA 130) "_law_above" gE 1480)))))) (nd zE (nd wp (nd r3 (ll yT ao) (ll y8 (le (fo (cA 123 10) "Evaluator.force")))) (nd Ce (ll JP (le Mu)) (ll FD (le Om)))) (nd ry (nd y7 (ll zt aC) (ll Ku ao)) (nd yu (ll J1 (le MR)) ao)))) (nd yc (nd aZ (nd tR (nd rW (ll (CQ P) (le Li)) (ll Eu (le Ng))) (nd xL (ll y7 (le Mo)) (ll y7 ao))) (nd y7 (nd y8 (ll aZ (le (fo (sA 103) "b_isVirtualClass"))) (ll E0 aC)) (nd yj (ll y7 (le TN)) (ll y8 aC)))) (nd aZ (nd y8 (nd w6 (ll yW (le LB)) (ll EJ (le Nu))) (nd xZ (ll DR ao) (ll y7 (le (fo (sA 128) "_law_pip"))))) (nd rG (nd xq (ll Dn (le Ma)) (ll Ff (le (fo (cA 123 21) "Evaluator.apply_closure")))) (nd yx (ll y7 (le MZ)) (le K0))))))) (nd o0 (nd o8 (nd y7 (nd sT (nd tJ (nd wQ (ll CJ ao) (ll y7 ao)) (nd y7 (ll y7 ao) (ll KC (le N4)))) (nd aZ (nd sz (ll y7 (le LJ)) (ll y7 ao)) (nd Cm (ll JT (le (cq "Frame" 1915 920 1219 1918))) (ll y7 (le TQ))))) (nd dZ (nd y7 (nd wY (ll yP (le Lo)) (ll Ke ao)) (nd y7 (ll y7 aC) (ll y8 (le (su 1442))))) (nd ru (nd xi (ll zo (le (fo (sA 105) "b_extends"))) (ll y7 (le NO))) (nd yp (ll (Ea P) aC) (ll F8 aC))))) (nd y7 (nd zw (nd y7 (nd y7 (ll CO (le Lg)) (ll Es (le Nd))) (nd xH (ll JL (le Mm)) (ll Fs ao))) (nd y7 (nd BY (ll zl ao) (ll EY (le NG))) (nd Ct (ll D5 ao) (ll KR (le (fo (sA 132) "_law_due")))))) (nd tG (nd ww (nd y7 (ll y8 aC) (ll EI aC)) (nd xX (ll DP ao) (ll y7 ao))) (nd y7 (nd y8 (ll y8 aC) (ll Fd ao)) (nd yv (ll y7 (le MX)) aC))))) (nd y7 (nd sE (nd y7 (nd (zT P) (nd rR (ll CN aC) (ll y8 (le (fo (cA 123 6) "Evaluator.running_call")))) (nd B9 (ll JK (le (fo (sA 113) "bound_argument"))) (ll Fn (le N8)))) (nd q7 (nd y7 (ll y7 (le LN)) (ll EW (le (fo (cA 123 15) "Evaluator.spread_dots")))) (nd Co (ll D0 (le MH)) (ll y7 ao)))) (nd y8 (nd (qR P) (nd r7 (ll y7 ao) (ll ED ao)) (nd y8 (ll y8 (le Mw)) (ll FF (le Oo)))) (nd rA (nd y7 (ll y7 (le L5)) (ll (E9 P) ao)) (nd aZ (ll Ed aC) (le KY))))) (nd y8 (nd zy (nd Aa (nd wV (ll CT ao) (ll y7 (le Ni))) (nd Cc (ll DE (le Mq)) (ll y7 (le (fo (cA 123 26) "Evaluator.run"))))) (nd wJ (nd xe (ll Dh aC) (ll E4 (le NK))) (nd yl (ll y7 ao) (ll F4 (le (co "_law_set" "_law_set" 2357 1264 4 3 1496 2367)))))) (nd zN (nd qV (nd y8 (ll zb (le LD)) (ll EL (le Nw))) (nd y7 (ll y7 (le (fo (sA 120) "is_empty_name"))) (ll FO aC))) (nd rK (nd xu (ll Dr (le Mc)) (ll y7 aC)) (nd yC (ll J5 ao) (le K7))))))))) (nd (o2 P) (nd (boot_o_4 P) (nd y8 (nd y8 (nd rt (nd yE (nd y8 (nd wP (ll CG ao) (ll y7 (le M5))) (nd xw (ll JE (le Md)) (ll Fi (le (fo (cA 123 22) "Evaluator.leave"))))) (nd (qY P) (nd w7 (ll C3 (le LG)) (ll EM (le Nx))) (nd Ck (ll DV ao) (ll FP (le (fo (sA 129) "_law_word")))))) (nd (s9 P) (nd (Ab P) (nd y7 (ll y8 (le Lm)) (ll Ex (le Nj))) (nd xO (ll DF aC) (ll y7 (le Oh)))) (nd y7 (nd y8 (ll y8 (le LW)) (ll (Kq P) aC)) (nd ym (ll y7 ao) (ll y8 aC))))) (nd sF (nd sY (nd zW (nd y8 (ll yI (le (fo (sA 92) "quiet"))) (ll Kb ao)) (nd y7 (ll Dy ao) (ll y8 (le Oa)))) (nd q8 (nd BX (ll zg (le LO)) (ll y7 ao)) (nd aZ (ll y8 (le MK)) (ll FX (le (fu (sA 131) "_law_is_known" gE 1487)))))) (nd zH (nd wt (nd se (ll y7 ao) (ll y8 ao)) (nd Cf (ll JQ (le Mx)) (ll FH (le Op)))) (nd rB (nd y7 (ll y7 aC) (ll Fc ao)) (nd CB (ll Ee (le (fo (cA 123 2) "Evaluator.define"))) ao))))) (nd o9 (nd sf (nd sU (nd tM (nd y7 (ll b0 ao) (ll y7 (le M8))) (nd xC (ll JJ (le Mh)) (ll y7 (le N5)))) (nd wD (nd sB (ll C8 aC) (ll ER (le NB))) (nd ye (ll y7 aC) (ll FS (le (co "_law_above" "_law_above" 2322 1239 2 3 1475 2333)))))) (nd y7 (nd y7 (nd y8 (ll yS (le Lp)) (ll y7 ao)) (nd y7 (ll y7 (le (fo (sA 117) "dots_of"))) (ll KI aC))) (nd y8 (nd xj (ll zr ao) (ll y7 (le NP))) (nd yt (ll Ec (le (fo (cA 123 1) "Evaluator.new_env"))) (ll F9 (le (fu (sA 135) "_law_slots_of" gE 1511))))))) (nd y7 (nd s8 (nd tQ (nd rV (ll aZ (le Lh)) (ll Et aC)) (nd (xK P) (ll y8 aC) (ll Ft (le Od)))) (nd ri (nd y7 (ll y7 ao) (ll y8 ao)) (nd y8 (ll (JW P) ao) (ll y7 ao)))) (nd dZ (nd y7 (nd y7 (ll C2 (le (fo (sA 98) "generator"))) (ll Ki (le (fo (cA 123 12) "Evaluator.function_of")))) (nd xY (ll DQ (le MB)) (ll FM ao))) (nd rF (nd B6 (ll JD (le (fo (sA 109) "lookup_here"))) (ll Fe ao)) (nd yw (ll Ei (le MY)) (le (fo (cA 88 0) "S4Dispatch.__init__")))))))) (nd (fp (nf (Gm (oS (O3 (O4 [])))))) (nd o7 (nd rM (nd y8 (nd tI (nd y7 (ll y7 (le K9)) (ll En (le M6))) (nd xy (ll (JG P) (le Mf)) (ll y7 aC))) (nd y7 (nd y8 (ll (C5 P) (le (fo (sA 100) "b_setClassUnion"))) (ll EP (le Nz))) (nd y7 (ll y7 (le (fp (K4 922 1228<|[])))) (ll FR aC)))) (nd zC (nd wn (nd wX (ll yO (le Ln)) (ll y7 (le Nl))) (nd xQ (ll DH ao) (ll y7 (le Ol)))) (nd wK (nd xh (ll zn ao) (ll Kt (le NN))) (nd yo (ll D9 ao) (ll F7 ao))))) (nd sH (nd y7 (nd tN (nd b0 (ll yM aC) (ll y8 (le (fo (cA 123 7) "Evaluator.eval")))) (nd Ca (ll DC (le (fo (sA 114) "dots_argument"))) (ll Fq (le Ob)))) (nd rd (nd y7 (ll zk (le LQ)) (ll Kn (le (fo (cA 123 16) "Evaluator.promise_args")))) (nd Cs (ll D4 (le (bi 1232))) (ll y7 ao)))) (nd (tF P) (nd y7 (nd w5 (ll y7 ao) (ll EH ao)) (nd y8 (ll y8 (le Mz)) (ll FK (le Ot)))) (nd rE (nd y7 (ll y7 ao) (ll y8 (le b0))) (nd y8 (ll Eg aC) ao))))) (nd qZ (nd sD (nd sW (nd aZ (nd wR (ll y7 ao) (ll y7 ao)) (nd y7 (ll y7 ao) (ll KD (le N7)))) (nd y8 (nd (BU P) (ll ze (le LM)) (ll EV ao)) (nd yi (ll JU (le MG)) (ll FU (le (tu 2339 ["world","word"])))))) (nd y7 (nd qQ (nd r6 (ll CW (le Lr)) (ll Kf (le b0))) (nd y7 (ll y7 aC) (ll y8 (le On)))) (nd rz (nd xl (ll Dl (le (fo (sA 106) "slot_rows"))) (ll E8 (le NR))) (nd y7 (ll y8 ao) (le Gb))))) (nd y7 (nd y8 (nd zZ (nd y8 (ll CS (le Lj)) (ll Ev (le Nh))) (nd Cb (ll DD (le Mp)) (ll Fw ao))) (nd y7 (nd BZ (ll Dg ao) (ll E3 (le (fo (cA 123 17) "Evaluator.eager_args")))) (nd yk (ll JZ (le Gc)) (ll KS (le (fo (sA 133) "_law_set")))))) (nd zM (nd wz (nd y7 (ll (za P) aC) (ll y8 aC)) (nd (Ch P) (ll DT ao) (ll FN ao))) (nd rJ (nd y8 (ll (Dq P) aC) (ll Fg ao)) (nd yB (ll y7 (le M3)) (le (K6 P))))))))) (nd (boot_o_6 P) (nd (boot_o_10 P) (nd y7 (nd y7 (nd sQ (nd y7 (nd y8 (ll aZ (le (fo (sA 89) "call_s4_method"))) (ll J6 ao)) (nd y7 (ll y7 ao) (ll y8 (le N2)))) (nd wA (nd sy (ll y7 ao) (ll y7 ao)) (nd y8 (ll y8 (le (ca P 1920 cW "Frame" (He P []) 5))) (ll KO (le (fu (sA 129) "_law_word" gE 1473)))))) (nd th (nd Ac (nd (wW P) (ll y7 aC) (ll y8 (le (fo (cA 123 9) "Evaluator.dots_value")))) (nd Cd (ll JO (le Mr)) (ll Fy (le Oj)))) (nd rq (nd y7 (ll y7 aC) (ll Kr ao)) (nd Cv (ll D7 (le MO)) (ll y7 (le (cp "law" "law" 2370 1275 1 3 1503 2373))))))) (nd xz (nd y8 (nd y7 (nd rT (ll yK (le Lf)) (ll Er (le Nc))) (nd xG (ll DA (le Ml)) (ll y7 ao))) (nd y7 (nd y8 (ll (zi P) (le (fo (sA 102) "split_first"))) (ll EX (le NF))) (nd y7 (ll y7 (le MM)) (ll y8 aC)))) (nd tD (nd aZ (nd sh (ll CZ (le Lu)) (ll y7 (le Nq))) (nd xW (ll DO ao) (ll y7 (le (fo (sA 127) "_law_pips"))))) (nd wM (nd xn (ll JB (le L7)) (ll Kw (le NT))) (nd CD (ll y7 (le MW)) (le (cq "S4Dispatch" 1610 703 1008 1613))))))) (nd wm (nd y8 (nd y7 (nd zS (nd rQ (ll y8 (le Lb)) (ll J9 aC)) (nd y8 (ll y8 aC) (ll Fm ao))) (nd wF (nd y7 (ll y7 ao) (ll (ET P) aC)) (nd yg (ll DZ ao) (ll y7 ao)))) (nd zF (nd qO (nd y7 (ll yU (le (fo (sA 96) "prototype_parts"))) (ll EC (le Nn))) (nd xS (ll DJ (le Mv)) (ll FE ao))) (nd y7 (nd B4 (ll zu (le L4)) (ll E6 (le (fo (cA 123 19) "Evaluator.call_special")))) (nd Cw (ll J2 (le MS)) (le KV))))) (nd sM (nd (zx P) (nd (tS P) (nd b0 (ll y7 ao) (ll y7 ao)) (nd xM (ll y7 ao) (ll KG aC))) (nd y8 (nd xd (ll (Df P) (le LS)) (ll y7 (le NJ))) (nd y7 (ll JX (le (cq "Evaluator" 1954 930 1240 1957))) (ll F3 (le TS))))) (nd (zL P) (nd qU (nd si (ll yX (le LC)) (ll EK (le Nv))) (nd y7 (ll y7 aC) (ll y8 (le Ov)))) (nd rH (nd xr (ll Do (le Mb)) (ll y7 (le NW))) (nd yy (ll y8 ao) (le K3))))))) (nd o1 (nd y7 (nd wT (nd y7 (nd tK (nd rO (ll CK aC) (ll aZ (le (fo (cA 123 5) "Evaluator.warn_all")))) (nd B8 (ll JH (le (fo (sA 112) "done_promise"))) (ll Fk ao))) (nd (wC P) (nd y7 (ll C6 (le LK)) (ll Kk (le (fo (cA 123 14) "Evaluator.plain_call")))) (nd yb (ll DX (le (fr 1221 1218 cW))) (ll y8 ao)))) (nd aZ (nd y8 (nd wZ (ll yQ ao) (ll EA aC)) (nd y8 (ll y8 (le Mt)) (ll FC (le (bi 1442))))) (nd rx (nd y7 (ll zp (le LY)) (ll y8 ao)) (nd (yq P) (ll KW (le MQ)) (ll y7 (le (fo (sA 135) "_law_slots_of"))))))) (nd y8 (nd s0 (nd zY (nd y8 (ll CP ao) (ll y7 (le Nf))) (nd xI (ll JM (le Mn)) (ll y7 (le (fo (cA 123 25) "Evaluator.call_value"))))) (nd wI (nd xb (ll Dd aC) (ll EZ (le NH))) (nd b0 (ll y7 (le aZ)) (ll FZ (le (co "_law_due" "_law_due" 2344 1253 4 3 1489 2354)))))) (nd zI (nd wx (nd y8 (ll yV (le Ly)) (ll y7 (le Nt))) (nd y7 (ll y7 (le (fo (sA 119) "dots_place"))) (ll KL aC))) (nd y8 (nd xp (ll Dm (le L9)) (ll y7 aC)) (nd y7 (ll J4 ao) (le KZ)))))) (nd y8 (nd y7 (nd zv (nd y7 (nd rS (ll yG (le Ld)) (ll Eo (le Na))) (nd xE (ll Dw (le Mj)) (ll Fo (le (fo (cA 123 24) "Evaluator.shower"))))) (nd y7 (nd BV (ll C9 ao) (ll Kl (le ND))) (nd Cp (ll D2 (le MI)) (ll KQ (le (fo (sA 131) "_law_is_known")))))) (nd tw (nd qS (nd r8 (ll aZ aC) (ll EF aC)) (nd xU (ll DM ao) (ll y7 ao))) (nd y7 (nd y8 (ll aZ (le L6)) (ll Fa aC)) (nd (Cz P) (ll y7 (le MU)) (le aZ))))) (nd sO (nd zA (nd dZ (nd rX (ll b0 (le (fo (sA 94) "text_pairs"))) (ll Kd ao)) (nd y7 (ll y7 (le b0)) (ll y8 (le Of)))) (nd rl (nd xf (ll Di (le (fo (sA 104) "b_is"))) (ll y7 (le NL))) (nd y7 (ll y8 aC) (ll F5 (le (fu (sA 133) "_law_set" gE 1501)))))) (nd zP (nd qW (nd y7 (ll zc ao) (ll y7 ao)) (nd Ci (ll JS (le MD)) (ll y7 (le (tu 2318 ["word"]))))) (nd rL (nd y7 (ll Dt ao) (ll Ky (le NY))) (nd yD (ll Ek (le (fo (cA 123 4) "Evaluator.signal_error"))) (le (su 1021))))))))))
def KF(P:Params):Frag:=[(nat_lit 2,o2 P),(nat_lit 3,TO P),(nat_lit 15,y7),(nat_lit 17,o5),(nat_lit 18,y7),(nat_lit 20,o7),(nat_lit 21,o8),(nat_lit 22,y7),(nat_lit 24,o9),(nat_lit 25,y7),(nat_lit 27,qT),(nat_lit 28,qZ),(nat_lit 29,y7),(nat_lit 32,rt),(nat_lit 33,rD),(nat_lit 34,y7),(nat_lit 36,rM),(nat_lit 37,y7),(nat_lit 39,rZ),(nat_lit 40,sf),(nat_lit 41,y7),(nat_lit 44,sD),(nat_lit 45,sE),(nat_lit 46,y7),(nat_lit 48,sF),(nat_lit 49,y7),(nat_lit 51,sG),(nat_lit 52,sH),(nat_lit 53,y7),(nat_lit 55,sJ),(nat_lit 56,y7),(nat_lit 58,sM),(nat_lit 59,sN),(nat_lit 60,y7),(nat_lit 62,sO),(nat_lit 63,y7),(nat_lit 65,sP),(nat_lit 66,sQ),(nat_lit 67,y7),(nat_lit 69,sT),(nat_lit 70,y7),(nat_lit 72,sU),(nat_lit 73,sV),(nat_lit 74,y7),(nat_lit 76,sW),(nat_lit 77,y7),(nat_lit 79,sX),(nat_lit 80,sY),(nat_lit 81,y7),(nat_lit 83,sZ),(nat_lit 84,y7),(nat_lit 86,s0),(nat_lit 87,s7),(nat_lit 88,s8),(nat_lit 95,y7),(nat_lit 96,s9 P),(nat_lit 97,te),(nat_lit 98,th),(nat_lit 101,dZ),(nat_lit 108,y7),(nat_lit 110,tw),(nat_lit 111,y7),(nat_lit 113,tB),(nat_lit 114,tD),(nat_lit 115,tE),(nat_lit 116,tF P),(nat_lit 117,tG),(nat_lit 120,dZ),(nat_lit 127,y7),(nat_lit 129,tH),(nat_lit 130,y7),(nat_lit 132,tI),(nat_lit 133,tJ),(nat_lit 134,tK),(nat_lit 135,tL P),(nat_lit 136,tM),(nat_lit 139,dZ),(nat_lit 146,y7),(nat_lit 148,tN),(nat_lit 149,y7),(nat_lit 151,tP),(nat_lit 152,tQ),(nat_lit 153,tR),(nat_lit 154,tS P),(nat_lit 155,tT),(nat_lit 158,dZ),(nat_lit 165,y7),(nat_lit 167,qN),(nat_lit 168,y7),(nat_lit 170,qO),(nat_lit 171,qP),(nat_lit 172,qQ),(nat_lit 173,qR P),(nat_lit 174,qS),(nat_lit 177,dZ),(nat_lit 184,y7),(nat_lit 186,qU),(nat_lit 187,y7),(nat_lit 189,qV),(nat_lit 190,qW),(nat_lit 191,qX),(nat_lit 192,qY P),(nat_lit 193,q6),(nat_lit 203,y7),(nat_lit 205,q7),(nat_lit 206,y7),(nat_lit 208,q8),(nat_lit 209,ra),(nat_lit 210,y7),(nat_lit 212,rd),(nat_lit 213,y7),(nat_lit 215,rh),(nat_lit 216,ri),(nat_lit 217,y7),(nat_lit 219,rj),(nat_lit 220,y7),(nat_lit 222,rl),(nat_lit 223,rp),(nat_lit 224,y7),(nat_lit 226,rq),(nat_lit 227,y7),(nat_lit 229,ru),(nat_lit 230,rx),(nat_lit 231,y7),(nat_lit 233,ry),(nat_lit 234,y7),(nat_lit 236,rz),(nat_lit 237,rA),(nat_lit 238,y7),(nat_lit 240,rB),(nat_lit 241,y7),(nat_lit 243,rC),(nat_lit 244,rE),(nat_lit 245,y7),(nat_lit 248,rF),(nat_lit 249,rG),(nat_lit 250,rH),(nat_lit 251,rI P),(nat_lit 252,rJ),(nat_lit 253,rK),(nat_lit 254,rL),(nat_lit 257,y7),(nat_lit 259,rN),(nat_lit 260,y7),(nat_lit 262,rO),(nat_lit 263,rP),(nat_lit 264,y7),(nat_lit 266,rQ),(nat_lit 267,y7),(nat_lit 269,rR),(nat_lit 270,rS),(nat_lit 271,y7),(nat_lit 274,rT),(nat_lit 275,rU),(nat_lit 276,b0),(nat_lit 277,y7),(nat_lit 280,rV),(nat_lit 281,rW),(nat_lit 282,b0),(nat_lit 283,y7),(nat_lit 286,rX),(nat_lit 287,rY),(nat_lit 295,y7),(nat_lit 297,r3),(nat_lit 298,y7),(nat_lit 300,r6),(nat_lit 301,r7),(nat_lit 302,r8),(nat_lit 303,r9 P),(nat_lit 304,se),(nat_lit 305,sg),(nat_lit 306,sh),(nat_lit 309,y7),(nat_lit 311,y7),(nat_lit 312,y7),(nat_lit 314,si),(nat_lit 315,sj),(nat_lit 316,y7),(nat_lit 318,y7),(nat_lit 319,y7),(nat_lit 321,sk),(nat_lit 322,sy),(nat_lit 323,y7),(nat_lit 325,sz),(nat_lit 326,y7),(nat_lit 328,sB),(nat_lit 329,sC),(nat_lit 337,y7),(nat_lit 339,xa),(nat_lit 340,y7),(nat_lit 342,xb),(nat_lit 343,xc),(nat_lit 344,y7),(nat_lit 346,xd),(nat_lit 347,y7),(nat_lit 349,xe),(nat_lit 350,xf),(nat_lit 351,y7),(nat_lit 353,xg),(nat_lit 354,y7),(nat_lit 356,xh),(nat_lit 357,xi),(nat_lit 358,y7),(nat_lit 360,xj),(nat_lit 361,y7),(nat_lit 363,xk),(nat_lit 364,xl),(nat_lit 365,y7),(nat_lit 367,xm),(nat_lit 368,y7),(nat_lit 370,xn),(nat_lit 371,xo),(nat_lit 372,y7),(nat_lit 374,xp),(nat_lit 375,y7),(nat_lit 377,xq),(nat_lit 378,xr),(nat_lit 379,y7),(nat_lit 381,xu),(nat_lit 382,y7),(nat_lit 384,xw),(nat_lit 385,xx),(nat_lit 386,y7),(nat_lit 388,xy),(nat_lit 389,y7),(nat_lit 391,xB),(nat_lit 392,xC),(nat_lit 393,y7),(nat_lit 395,xD),(nat_lit 396,y7),(nat_lit 398,xE),(nat_lit 399,xF),(nat_lit 400,y7),(nat_lit 402,xG),(nat_lit 403,y7),(nat_lit 405,xH),(nat_lit 406,xI),(nat_lit 407,xJ),(nat_lit 408,xK P),(nat_lit 409,xL),(nat_lit 410,xM),(nat_lit 411,xN),(nat_lit 414,y7),(nat_lit 416,xO),(nat_lit 417,y7),(nat_lit 419,xP),(nat_lit 420,xQ),(nat_lit 421,y7),(nat_lit 423,xR),(nat_lit 424,y7),(nat_lit 426,xS),(nat_lit 427,xT),(nat_lit 428,y7),(nat_lit 430,xU),(nat_lit 431,y7),(nat_lit 433,xV),(nat_lit 434,xW),(nat_lit 435,y7),(nat_lit 437,xX),(nat_lit 438,y7),(nat_lit 440,xY),(nat_lit 441,xZ),(nat_lit 449,y7),(nat_lit 451,ya),(nat_lit 452,y7),(nat_lit 454,yb),(nat_lit 455,yd),(nat_lit 456,ye),(nat_lit 457,yf P),(nat_lit 458,yg),(nat_lit 459,yh),(nat_lit 460,yi),(nat_lit 470,b0),(nat_lit 471,y7),(nat_lit 473,yj),(nat_lit 474,y7),(nat_lit 476,yk),(nat_lit 477,yl),(nat_lit 478,y7),(nat_lit 480,ym),(nat_lit 481,y7),(nat_lit 483,yn),(nat_lit 484,yo),(nat_lit 485,yp),(nat_lit 486,yq P),(nat_lit 487,yr),(nat_lit 488,yt),(nat_lit 489,yu),(nat_lit 499,y7),(nat_lit 501,yv),(nat_lit 502,y7),(nat_lit 504,yw),(nat_lit 505,yx),(nat_lit 506,yy),(nat_lit 507,yz P),(nat_lit 508,yB),(nat_lit 509,yC),(nat_lit 510,yD),(nat_lit 520,b0),(nat_lit 521,y7),(nat_lit 523,yF),(nat_lit 524,y7),(nat_lit 526,yG),(nat_lit 527,yH),(nat_lit 528,yI),(nat_lit 529,yJ P),(nat_lit 530,yK),(nat_lit 531,yL),(nat_lit 532,yM),(nat_lit 542,b0),(nat_lit 543,y7),(nat_lit 545,yN),(nat_lit 546,y7),(nat_lit 548,yO),(nat_lit 549,yP),(nat_lit 550,yQ),(nat_lit 551,yR P),(nat_lit 552,yS),(nat_lit 553,yT),(nat_lit 554,yU),(nat_lit 564,y7),(nat_lit 566,yV),(nat_lit 567,y7),(nat_lit 569,yW),(nat_lit 570,yX),(nat_lit 571,yZ),(nat_lit 572,za P),(nat_lit 573,zb),(nat_lit 574,zc),(nat_lit 575,zd),(nat_lit 585,b0),(nat_lit 586,y7),(nat_lit 588,ze),(nat_lit 589,y7),(nat_lit 591,zf),(nat_lit 592,zg),(nat_lit 593,zh),(nat_lit 594,zi P),(nat_lit 595,zj),(nat_lit 596,zk),(nat_lit 597,zl),(nat_lit 607,y7),(nat_lit 609,zm),(nat_lit 610,y7),(nat_lit 612,zn),(nat_lit 613,zo),(nat_lit 614,zp),(nat_lit 615,zq P),(nat_lit 616,zr),(nat_lit 617,zt),(nat_lit 618,zu),(nat_lit 628,y7),(nat_lit 630,Dm),(nat_lit 631,y7),(nat_lit 633,Dn),(nat_lit 634,Do),(nat_lit 635,Dp),(nat_lit 636,Dq P),(nat_lit 637,Dr),(nat_lit 638,Dt),(nat_lit 639,Du),(nat_lit 649,y7),(nat_lit 651,Dv),(nat_lit 652,y7),(nat_lit 654,Dw),(nat_lit 655,Dx),(nat_lit 656,Dy),(nat_lit 657,Dz P),(nat_lit 658,DA),(nat_lit 659,DB),(nat_lit 660,DC),(nat_lit 663,y7),(nat_lit 665,y7),(nat_lit 666,y7),(nat_lit 668,DD),(nat_lit 669,DE),(nat_lit 670,y7),(nat_lit 672,DF),(nat_lit 673,y7),(nat_lit 675,DG),(nat_lit 676,DH),(nat_lit 677,y7),(nat_lit 679,DI),(nat_lit 680,y7),(nat_lit 682,DJ),(nat_lit 683,DL),(nat_lit 684,y7),(nat_lit 686,DM),(nat_lit 687,y7),(nat_lit 689,DN),(nat_lit 690,DO),(nat_lit 691,y7),(nat_lit 693,DP),(nat_lit 694,y7),(nat_lit 696,DQ),(nat_lit 697,DR),(nat_lit 698,y7),(nat_lit 700,DT),(nat_lit 701,y7),(nat_lit 703,DU),(nat_lit 704,DV),(nat_lit 705,y7),(nat_lit 707,DW),(nat_lit 708,y7),(nat_lit 710,DX),(nat_lit 711,DY),(nat_lit 712,y7),(nat_lit 714,DZ),(nat_lit 715,y7),(nat_lit 717,D0),(nat_lit 718,D2),(nat_lit 719,y7),(nat_lit 721,D3),(nat_lit 722,y7),(nat_lit 724,D4),(nat_lit 725,D5),(nat_lit 733,y7),(nat_lit 735,D6),(nat_lit 736,y7),(nat_lit 738,D7),(nat_lit 739,D8),(nat_lit 740,D9),(nat_lit 741,Ea P),(nat_lit 742,KW),(nat_lit 743,Eb),(nat_lit 744,Ec),(nat_lit 747,y7),(nat_lit 749,Ed),(nat_lit 750,y7),(nat_lit 752,Ee),(nat_lit 753,Ef),(nat_lit 754,y7),(nat_lit 756,Eg),(nat_lit 757,y7),(nat_lit 759,Eh),(nat_lit 760,Ei),(nat_lit 761,y7),(nat_lit 763,Ej),(nat_lit 764,y7),(nat_lit 766,Ek),(nat_lit 767,El),(nat_lit 768,y7),(nat_lit 771,Em),(nat_lit 772,En),(nat_lit 780,y7),(nat_lit 782,Eo),(nat_lit 783,y7),(nat_lit 785,Ep),(nat_lit 786,Er),(nat_lit 787,y7),(nat_lit 789,Es),(nat_lit 790,y7),(nat_lit 792,Et),(nat_lit 793,Eu),(nat_lit 794,y7),(nat_lit 796,Ev),(nat_lit 797,y7),(nat_lit 799,Ew),(nat_lit 800,Ex),(nat_lit 801,y7),(nat_lit 803,Ey),(nat_lit 804,y7),(nat_lit 806,EA),(nat_lit 807,EB),(nat_lit 808,y7),(nat_lit 810,EC),(nat_lit 811,y7),(nat_lit 813,ED),(nat_lit 814,EF),(nat_lit 815,y7),(nat_lit 817,EG),(nat_lit 818,y7),(nat_lit 820,EH),(nat_lit 821,EI),(nat_lit 822,y7),(nat_lit 825,EJ),(nat_lit 826,EK),(nat_lit 827,y7),(nat_lit 829,EL),(nat_lit 830,y7),(nat_lit 832,EM),(nat_lit 833,EO),(nat_lit 834,y7),(nat_lit 836,EP),(nat_lit 837,y7),(nat_lit 839,EQ),(nat_lit 840,ER),(nat_lit 841,ES),(nat_lit 842,ET P),(nat_lit 843,EU),(nat_lit 844,EV),(nat_lit 845,EW),(nat_lit 848,y7),(nat_lit 850,EX),(nat_lit 851,y7),(nat_lit 853,EY),(nat_lit 854,EZ),(nat_lit 855,y7),(nat_lit 857,E0),(nat_lit 858,y7),(nat_lit 860,E3),(nat_lit 861,E4),(nat_lit 869,y7),(nat_lit 871,E5),(nat_lit 872,y7),(nat_lit 874,E6),(nat_lit 875,E7),(nat_lit 876,E8),(nat_lit 877,E9 P),(nat_lit 878,Fa),(nat_lit 879,Fb),(nat_lit 880,Fc),(nat_lit 883,y7),(nat_lit 885,Fd),(nat_lit 886,y7),(nat_lit 888,Fe),(nat_lit 889,Ff),(nat_lit 890,y7),(nat_lit 892,Fg),(nat_lit 893,y7),(nat_lit 895,Fh),(nat_lit 896,Fi),(nat_lit 897,y7),(nat_lit 899,Fj),(nat_lit 900,y7),(nat_lit 902,Fk),(nat_lit 903,Fl),(nat_lit 904,y7),(nat_lit 906,Fm),(nat_lit 907,y7),(nat_lit 909,Fn),(nat_lit 910,Fo),(nat_lit 911,y7),(nat_lit 913,Fp),(nat_lit 914,y7),(nat_lit 916,Fq),(nat_lit 917,Fs),(nat_lit 918,y7),(nat_lit 920,Ft),(nat_lit 921,y7),(nat_lit 923,Fu),(nat_lit 924,Fw),(nat_lit 925,y7),(nat_lit 927,Fx),(nat_lit 928,y7),(nat_lit 930,Fy),(nat_lit 931,FA),(nat_lit 932,y7),(nat_lit 934,FC),(nat_lit 935,y7),(nat_lit 937,FD),(nat_lit 938,FE),(nat_lit 939,y7),(nat_lit 941,FF),(nat_lit 942,y7),(nat_lit 944,FH),(nat_lit 945,FJ),(nat_lit 946,y7),(nat_lit 948,FK),(nat_lit 949,y7),(nat_lit 951,FL),(nat_lit 952,FM),(nat_lit 953,y7),(nat_lit 956,FN),(nat_lit 957,FO),(nat_lit 958,y7),(nat_lit 960,FP),(nat_lit 961,y7),(nat_lit 963,FQ),(nat_lit 964,FR),(nat_lit 965,y7),(nat_lit 968,FS),(nat_lit 969,FT),(nat_lit 970,y7),(nat_lit 972,FU),(nat_lit 973,y7),(nat_lit 975,FW),(nat_lit 976,FX),(nat_lit 977,y7),(nat_lit 979,FY),(nat_lit 980,y7),(nat_lit 982,FZ),(nat_lit 983,F0),(nat_lit 984,y7),(nat_lit 986,F3),(nat_lit 987,y7),(nat_lit 989,F4),(nat_lit 990,F5),(nat_lit 991,y7),(nat_lit 993,F6),(nat_lit 994,y7),(nat_lit 996,F7),(nat_lit 997,F8),(nat_lit 998,y7),(nat_lit 1000,F9),(nat_lit 1001,y7),(nat_lit 1003,Ga),(nat_lit 1004,Gb),(nat_lit 1005,KY),(nat_lit 1012,y7),(nat_lit 1014,KZ),(nat_lit 1015,y7),(nat_lit 1017,K0),(nat_lit 1018,K3),(nat_lit 1019,K5),(nat_lit 1020,K6 P),(nat_lit 1021,K7),(nat_lit 1024,y7),(nat_lit 1027,K8),(nat_lit 1028,K9),(nat_lit 1029,y7),(nat_lit 1031,La),(nat_lit 1032,y7),(nat_lit 1034,Lb),(nat_lit 1035,Lc),(nat_lit 1036,y7),(nat_lit 1038,Ld),(nat_lit 1039,y7),(nat_lit 1041,Le),(nat_lit 1042,Lf),(nat_lit 1043,y7),(nat_lit 1045,Lg),(nat_lit 1046,y7),(nat_lit 1048,Lh),(nat_lit 1049,Li),(nat_lit 1050,y7),(nat_lit 1052,Lj),(nat_lit 1053,y7),(nat_lit 1055,Ll),(nat_lit 1056,Lm),(nat_lit 1057,y7),(nat_lit 1060,Ln),(nat_lit 1061,Lo),(nat_lit 1062,y7),(nat_lit 1064,Lp),(nat_lit 1065,y7),(nat_lit 1067,Lq),(nat_lit 1068,Lr),(nat_lit 1069,y7),(nat_lit 1071,Ls),(nat_lit 1072,y7),(nat_lit 1074,Lu),(nat_lit 1075,Lv),(nat_lit 1076,y7),(nat_lit 1078,Ly),(nat_lit 1079,LA),(nat_lit 1081,LB),(nat_lit 1082,LC),(nat_lit 1083,y7),(nat_lit 1085,LD),(nat_lit 1086,y7),(nat_lit 1088,LG),(nat_lit 1089,LH),(nat_lit 1090,y7),(nat_lit 1093,LJ),(nat_lit 1094,LK),(nat_lit 1095,y7),(nat_lit 1097,LL),(nat_lit 1098,y7),(nat_lit 1100,LM),(nat_lit 1101,LN),(nat_lit 1102,y7),(nat_lit 1104,LO),(nat_lit 1105,y7),(nat_lit 1107,LP),(nat_lit 1108,LQ),(nat_lit 1109,y7),(nat_lit 1111,LR),(nat_lit 1112,y7),(nat_lit 1114,LS),(nat_lit 1115,LU),(nat_lit 1116,y7),(nat_lit 1119,LV),(nat_lit 1120,LW),(nat_lit 1121,y7),(nat_lit 1123,LX),(nat_lit 1124,y7),(nat_lit 1126,LY),(nat_lit 1127,LZ),(nat_lit 1128,y7),(nat_lit 1130,L4),(nat_lit 1131,y7),(nat_lit 1133,L5),(nat_lit 1134,L6),(nat_lit 1135,y7),(nat_lit 1138,L7),(nat_lit 1139,L8),(nat_lit 1140,y7),(nat_lit 1142,L9),(nat_lit 1143,y7),(nat_lit 1145,Ma),(nat_lit 1146,Mb),(nat_lit 1147,y7),(nat_lit 1149,Mc),(nat_lit 1150,y7),(nat_lit 1152,Md),(nat_lit 1153,Me),(nat_lit 1154,y7),(nat_lit 1156,Mf),(nat_lit 1157,y7),(nat_lit 1159,Mg),(nat_lit 1160,Mh),(nat_lit 1161,y7),(nat_lit 1163,Mi),(nat_lit 1164,y7),(nat_lit 1166,Mj),(nat_lit 1167,Mk),(nat_lit 1168,y7),(nat_lit 1170,Ml),(nat_lit 1171,y7),(nat_lit 1173,Mm),(nat_lit 1174,Mn),(nat_lit 1175,y7),(nat_lit 1177,Mo),(nat_lit 1178,y7),(nat_lit 1180,Mp),(nat_lit 1181,Mq),(nat_lit 1182,b0),(nat_lit 1183,y7),(nat_lit 1186,Mr),(nat_lit 1187,Ms),(nat_lit 1188,y7),(nat_lit 1190,Mt),(nat_lit 1191,y7),(nat_lit 1193,Mu),(nat_lit 1194,Mv),(nat_lit 1195,y7),(nat_lit 1197,Mw),(nat_lit 1198,y7),(nat_lit 1200,Mx),(nat_lit 1201,My),(nat_lit 1202,y7),(nat_lit 1204,Mz),(nat_lit 1205,y7),(nat_lit 1207,MA),(nat_lit 1208,MB),(nat_lit 1209,y7),(nat_lit 1211,MC),(nat_lit 1212,y7),(nat_lit 1214,MD),(nat_lit 1215,ME),(nat_lit 1223,y7),(nat_lit 1225,MF),(nat_lit 1226,y7),(nat_lit 1228,MG),(nat_lit 1229,MH),(nat_lit 1230,MI),(nat_lit 1231,MJ P),(nat_lit 1232,MK),(nat_lit 1233,ML),(nat_lit 1234,MM),(nat_lit 1244,Gc),(nat_lit 1245,y7),(nat_lit 1247,MN),(nat_lit 1248,y7),(nat_lit 1250,MO),(nat_lit 1251,MP),(nat_lit 1252,y7),(nat_lit 1254,MQ),(nat_lit 1255,y7),(nat_lit 1257,MR),(nat_lit 1258,MS),(nat_lit 1259,MT),(nat_lit 1260,y7),(nat_lit 1262,MU),(nat_lit 1263,y7),(nat_lit 1265,MV),(nat_lit 1266,MW),(nat_lit 1267,y7),(nat_lit 1269,MX),(nat_lit 1270,y7),(nat_lit 1272,MY),(nat_lit 1273,MZ),(nat_lit 1274,y7),(nat_lit 1276,M3),(nat_lit 1277,y7),(nat_lit 1279,M4),(nat_lit 1280,M5),(nat_lit 1281,b0),(nat_lit 1282,y7),(nat_lit 1284,M6),(nat_lit 1285,y7),(nat_lit 1287,M7),(nat_lit 1288,M8),(nat_lit 1289,y7),(nat_lit 1291,M9),(nat_lit 1292,y7),(nat_lit 1294,Na),(nat_lit 1295,Nb),(nat_lit 1296,y7),(nat_lit 1298,Nc),(nat_lit 1299,y7),(nat_lit 1301,Nd),(nat_lit 1302,Nf),(nat_lit 1303,y7),(nat_lit 1305,Ng),(nat_lit 1306,y7),(nat_lit 1308,Nh),(nat_lit 1309,Ni),(nat_lit 1310,y7),(nat_lit 1312,Nj),(nat_lit 1313,y7),(nat_lit 1315,Nk),(nat_lit 1316,Nl),(nat_lit 1317,y7),(nat_lit 1319,Nm),(nat_lit 1320,y7),(nat_lit 1322,Nn),(nat_lit 1323,No),(nat_lit 1324,b0),(nat_lit 1325,y7),(nat_lit 1327,Np),(nat_lit 1328,y7),(nat_lit 1330,Nq),(nat_lit 1331,Nr),(nat_lit 1332,y7),(nat_lit 1334,Nt),(nat_lit 1335,y7),(nat_lit 1337,Nu),(nat_lit 1338,Nv),(nat_lit 1339,y7),(nat_lit 1341,Nw),(nat_lit 1342,y7),(nat_lit 1344,Nx),(nat_lit 1345,Ny),(nat_lit 1346,y7),(nat_lit 1348,Nz),(nat_lit 1349,y7),(nat_lit 1351,NA),(nat_lit 1352,NB),(nat_lit 1353,y7),(nat_lit 1355,NC),(nat_lit 1356,y7),(nat_lit 1358,ND),(nat_lit 1359,NE),(nat_lit 1360,y7),(nat_lit 1362,NF),(nat_lit 1363,y7),(nat_lit 1365,NG),(nat_lit 1366,NH),(nat_lit 1367,NI),(nat_lit 1368,y7),(nat_lit 1370,NJ),(nat_lit 1371,y7),(nat_lit 1373,NK),(nat_lit 1374,NL),(nat_lit 1375,y7),(nat_lit 1377,NM),(nat_lit 1378,y7),(nat_lit 1380,NN),(nat_lit 1381,NO),(nat_lit 1382,y7),(nat_lit 1384,NP),(nat_lit 1385,y7),(nat_lit 1387,NQ),(nat_lit 1388,NR),(nat_lit 1389,y7),(nat_lit 1391,NS),(nat_lit 1392,y7),(nat_lit 1394,NT),(nat_lit 1395,NU),(nat_lit 1396,b0),(nat_lit 1397,y7),(nat_lit 1399,NV),(nat_lit 1400,y7),(nat_lit 1402,NW),(nat_lit 1403,NX),(nat_lit 1404,y7),(nat_lit 1406,NY),(nat_lit 1407,y7),(nat_lit 1409,NZ),(nat_lit 1410,N2),(nat_lit 1411,y7),(nat_lit 1413,N4),(nat_lit 1414,y7),(nat_lit 1416,N5),(nat_lit 1417,N6),(nat_lit 1418,y7),(nat_lit 1420,N7),(nat_lit 1421,N8),(nat_lit 1423,N9),(nat_lit 1424,Oa),(nat_lit 1425,b0),(nat_lit 1426,y7),(nat_lit 1428,Ob),(nat_lit 1429,y7),(nat_lit 1431,Oc),(nat_lit 1432,Od),(nat_lit 1433,y7),(nat_lit 1435,Oe),(nat_lit 1436,y7),(nat_lit 1438,Of),(nat_lit 1439,Og),(nat_lit 1440,Oh),(nat_lit 1441,Oi P),(nat_lit 1442,Oj),(nat_lit 1443,Ok),(nat_lit 1444,Ol),(nat_lit 1447,y7),(nat_lit 1449,Om),(nat_lit 1450,y7),(nat_lit 1452,On),(nat_lit 1453,Oo),(nat_lit 1454,y7),(nat_lit 1456,Op),(nat_lit 1457,y7),(nat_lit 1459,Oq),(nat_lit 1460,Ot),(nat_lit 1461,y7),(nat_lit 1463,Ou),(nat_lit 1464,y7),(nat_lit 1466,Ov),(nat_lit 1467,Ow),(nat_lit 1468,y7),(nat_lit 1470,(tu 2318 ["word"])),(nat_lit 1471,y7),(nat_lit 1473,(co "_law_word" "_law_word" 2315 1237 1 3 1468 2319)),(nat_lit 1474,(fu (sA 129) "_law_word" gE 1473)),(nat_lit 1475,y7),(nat_lit 1477,TQ),(nat_lit 1478,y7),(nat_lit 1480,(co "_law_above" "_law_above" 2322 1239 2 3 1475 2333)),(nat_lit 1481,(fu (sA 130) "_law_above" gE 1480)),(nat_lit 1482,y7),(nat_lit 1484,(tu 2339 ["world","word"])),(nat_lit 1485,y7),(nat_lit 1487,(co "_law_is_known" "_law_is_known" 2336 1251 2 3 1482 2341)),(nat_lit 1488,(fu (sA 131) "_law_is_known" gE 1487)),(nat_lit 1489,y7),(nat_lit 1491,TR),(nat_lit 1492,y7),(nat_lit 1494,(co "_law_due" "_law_due" 2344 1253 4 3 1489 2354)),(nat_lit 1495,(fu (sA 132) "_law_due" gE 1494)),(nat_lit 1496,y7),(nat_lit 1498,TS),(nat_lit 1499,y7),(nat_lit 1501,(co "_law_set" "_law_set" 2357 1264 4 3 1496 2367)),(nat_lit 1502,(fu (sA 133) "_law_set" gE 1501)),(nat_lit 1503,y7),(nat_lit 1506,(cp "law" "law" 2370 1275 1 3 1503 2373)),(nat_lit 1507,(fu (sA 134) "law" gE 1506)),(nat_lit 1508,y7),(nat_lit 1511,(cp "_law_slots_of" "_law_slots_of" 2376 1318 2 3 1508 2379)),(nat_lit 1512,(fu (sA 135) "_law_slots_of" gE 1511))]
theorem xhn(w:World)(os:OsState):topGo treeTable pw w 11 ann 12 ⟨boot_heap w.params,⟨[]⟩,boot_drawn,boot_toks,os⟩ (topStub pw)=some (⟨hA w.params,⟨[]⟩,d0,187,os⟩,⟨denote treeTable (.body bd env),cE,z0,[topFrame z0]⟩):=by
 rewrite [PySem.W.Fast.te15667345088766844465,PySem.W.Fast.te11892475500146522536,PySem.W.Fast.te14364793385576792824]
 kernel_rfl
theorem Yx(w:World)(os:OsState):segRun treeTable pw w 11 ann 1 1 ⟨hA w.params,⟨[]⟩,d0,187,os⟩ (blockOf bd env cE z0 [topFrame z0])=some (.next,⟨absHeap (T0 w.params) 15 lf,⟨[]⟩,d0,187,os⟩,cE,z0):=by
 rewrite [PySem.W.Fast.te14374325043358763698,PySem.W.Fast.te14364793385576792824]
 kernel_rfl
theorem ck1(w:World):(fun os=>segRunT treeTable pw w 11 ann 1 2665 ⟨T0 w.params,15,lf,⟨[]⟩,d0,187,os⟩ (piecesOf (sl 0 31) env cE z0 [topFrame z0]))=fun os=>some (Flow.next,⟨T1 w.params,330,lf,⟨[]⟩,d0,609,os⟩,cE,⟨207,0,222,13⟩):=by
 rewrite [PySem.W.Fast.te10110043849684766642,PySem.W.Fast.te14364793385576792824]
 kernel_rfl
theorem ck2(w:World):(fun os=>segRunT treeTable pw w 11 ann 1 2530 ⟨T1 w.params,330,lf,⟨[]⟩,d0,609,os⟩ (piecesOf (sl 31 45) env cE ⟨207,0,222,13⟩ [topFrame z0]))=fun os=>some (Flow.next,⟨T2 w.params,621,lf,⟨[]⟩,d0,1062,os⟩,cE,⟨405,0,413,25⟩):=by
 rewrite [PySem.W.Fast.te10110043849684766642,PySem.W.Fast.te14364793385576792824]
 kernel_rfl
theorem ck3(w:World):(fun os=>segRunT treeTable pw w 11 ann 1 2459 ⟨T2 w.params,621,lf,⟨[]⟩,d0,1062,os⟩ (piecesOf (sl 45 88) env cE ⟨405,0,413,25⟩ [topFrame z0]))=fun os=>some (Flow.next,⟨T3 w.params,1005,lf,⟨[]⟩,d0,1608,os⟩,cE,⟨702,0,702,8⟩):=by
 rewrite [PySem.W.Fast.te10110043849684766642,PySem.W.Fast.te14364793385576792824]
 kernel_rfl
theorem ck4(w:World):(fun os=>segRunT treeTable pw w 11 ann 1 2682 ⟨T3 w.params,1005,lf,⟨[]⟩,d0,1608,os⟩ (piecesOf (sl 88 129) env cE ⟨702,0,702,8⟩ [topFrame z0]))=fun os=>some (Flow.next,⟨T4 w.params,1468,lf,⟨[]⟩,d0,2315,os⟩,cE,⟨1233,0,1236,28⟩):=by
 rewrite [PySem.W.Fast.te10110043849684766642,PySem.W.Fast.te14364793385576792824]
 kernel_rfl
theorem ck5(w:World):(fun os=>segRunT treeTable pw w 11 ann 1 218 ⟨T4 w.params,1468,lf,⟨[]⟩,d0,2315,os⟩ (piecesOf (sl 129 136) env cE ⟨1233,0,1236,28⟩ [topFrame z0]))=fun os=>some (Flow.next,⟨T5 w.params,1513,lf,⟨[]⟩,d0,2382,os⟩,cE,⟨1318,0,1319,98⟩):=by
 rewrite [PySem.W.Fast.te10110043849684766642,PySem.W.Fast.te14364793385576792824]
 kernel_rfl
theorem xcL(w:World)(os:OsState):topRun treeTable pw w 11 ann 2 ⟨absHeap (T5 w.params) 1513 lf,⟨[]⟩,d0,2382,os⟩ ⟨doneF .next,cE,⟨1318,0,1319,98⟩,[topFrame z0]⟩=some ⟨absHeap (T5 w.params) 1513 lf,⟨[]⟩,d0,2382,os⟩:=by
 rewrite [PySem.W.Fast.te14082659384304107361,PySem.W.Fast.te14364793385576792824]
 kernel_rfl
theorem Yu:bd=sl 0 31++(sl 31 45++(sl 45 88++(sl 88 129++(sl 129 136++[])))):=by kernel_rfl
noncomputable def M:Nat:=12+(1+(2665+(2530+(2459+(2682+(218+2))))))
theorem xh4(w:World)(os:OsState):topRun treeTable pw w 11 ann M ⟨boot_heap w.params,⟨[]⟩,boot_drawn,boot_toks,os⟩ (topStub pw)=some ⟨absHeap (T5 w.params) 1513 lf,⟨[]⟩,d0,2382,os⟩:=by
 refine go_top (xhn w os) ?_
 refine piece_block (Yx w os) ?_
 rewrite [show(restOf bd env cE z0 [topFrame z0]:Thread)=restOf (sl 0 31++(sl 31 45++(sl 45 88++(sl 88 129++(sl 129 136++[]))))) env cE z0 [topFrame z0] from congrArg (fun b=>restOf b env cE z0 [topFrame z0]) Yu]
 refine piece_app (segRun_of (congrFun (ck1 w) os)) ?_
 refine piece_app (segRun_of (congrFun (ck2 w) os)) ?_
 refine piece_app (segRun_of (congrFun (ck3 w) os)) ?_
 refine piece_app (segRun_of (congrFun (ck4 w) os)) ?_
 refine piece_app (segRun_of (congrFun (ck5 w) os)) ?_
 exact piece_nil (xcL w os)
noncomputable def q0:Program:={pw with main:={pw.main with body:=[sA 134]}}
noncomputable def loose:List Str:=[q "_wall",q "get_attr",q "names_of",q "dim_of",q "dimnames_of",q "class_attr",q "language_class",q "shape_class",q "plain_class",q "implicit_class",q "class_of",q "CoveError",q "Refusal",q "RError",q "LimitReached",q "ReturnSignal",q "LoopSignal",q "Matching",q "doubled_text",q "argument_text",q "unused_text",q "match_names",q "take",q "S4Class",q "data_kinds",q "basic_names",q "basic_parents",q "ClassTable",q "check_slots",q "value_classes",q "class_supers",q "is_of",q "Null",q "Vector",q "Symbol",q "Call",q "Closure",q "Builtin",q "Environment",q "Promise",q "Dots",q "S4Object",q "null",q "integer",q "character",q "flag",q "text",q "symbol",q "call_of",q "is_function",q "share",q "Dispatch",q "plain_value",q "plain_form",q "quoted_call",q "quoted_call_dispatch",q "internal_call",q "MethodTable",q "place_in",q "measure",q "S4State",q "s4_state",q "quoted",q "empty_factor",q "empty_matrix",q "default_value",q "prototype_value",q "make_prototype",q "copy_object",q "slot_class",q "slot_faults",q "told_faults",q "validity_faults",q "faults_text",q "validate",q "take_super",q "check_slot_names",q "default_initialize",q "fresh_object",q "S4Dispatch",q "call_s4_method",q "initialized",q "quiet",q "one_name",q "text_pairs",q "class_parts",q "prototype_parts",q "check_prototype",q "generator",q "b_setClass",q "b_setClassUnion",q "new_object",q "split_first",q "b_isVirtualClass",q "b_is",q "b_extends",q "slot_rows",q "b_slotNames",q "lookup_here",q "lookup",q "done_promise",q "bound_argument",q "dots_argument",q "default_binding",q "bind_formals",q "dots_of",q "is_dots_place",q "dots_place",q "is_empty_name",q "Frame",q "Evaluator",q "quoted_call_evaluator",q "_law_pips",q "_law_pip",q "_law_word",q "_law_above",q "_law_is_known",q "_law_due",q "_law_set",q "_law_slots_of"]
noncomputable def rr:OpenRow:=PySem.Challenge.rw_pq1369_01.row
noncomputable def mods:List Str:=importedModules pw.main.body
noncomputable def KA:List Addr:=(KF {strHash:=fun _=>0,shareClass:=fun _=>0,mergeTok:=id,idOf:=fun _=>0,idOfShared:=fun _ _=>0,followText:=fun _=>false,idOfImm:=fun _=>0}).map (·.1)
theorem YA:opening pw=plainProg pw.main.scope.names:=by kernel_rfl
theorem YB(s:Shared):fenceModules? pw s=some s:=by kernel_rfl
theorem op(w:World):(fencedOpening treeTable pw w 20000).map (fun s=>(s.heap,s.gens,s.drawn,s.toks))=some (boot_heap w.params,⟨[]⟩,boot_drawn,boot_toks):=boot_open YA (by decide) YB w
theorem le1:Nat.ble M 20000=true:=by kernel_rfl
theorem xih(w:World):((boot_heap w.params).isNs mainGlobals&&(⟨[]⟩:Array GenState).size==0,(boot_heap w.params).objs.size,(boot_heap w.params).nsMap mainGlobals "__annotations__")=(true,11,ann):=by kernel_rfl
theorem AN(P:Params):KA=(KF P).map (·.1):=by kernel_rfl
noncomputable def HF(P:Params):Heap:=absHeap (T5 P) 1513 lf
noncomputable def SF(P:Params)(os:OsState):Shared:=⟨HF P,⟨[]⟩,d0,2382,os⟩
theorem kt1(P:Params):KA.map (T5 P).get=(KF P).map fun p=>some p.2:=by kernel_rfl
noncomputable def Xt(s:Shared):Bool:=xlAt q0 [] s&&recOk rr.records s
theorem lk1(w:World)(os:OsState):staticsOk mods (boot_heap w.params) (HF w.params)=true:=by kernel_rfl
theorem lk2(w:World)(os:OsState):namesBound pw (HF w.params)=true:=by kernel_rfl
theorem lk3(w:World)(os:OsState):gensDone (SF w.params os)=true:=by kernel_rfl
theorem lk4(w:World)(os:OsState):laidKept (boot_heap w.params) (HF w.params)=true:=by kernel_rfl
noncomputable def OS(w:World)(os:OsState):=openSeen q0 loose mods Xt true (SF w.params os)
theorem lk5(w:World)(os:OsState):seen ((recsOf q0).map (·.name)) (ownsOf q0) [] {SF w.params os with gens:=#[]}=expectedOf q0:=by kernel_rfl
theorem lk6(w:World)(os:OsState):(SF w.params os).heap.bltView=bltViewBooted:=by kernel_rfl
theorem lk7(w:World)(os:OsState):((SF w.params os).heap.keysOk (looseW q0 loose) ((recsOf q0).map (·.name)) ((litsOf q0).map (·.1)) ((clssOf q0 (looseW q0 loose)).map (·.name))&&(SF w.params os).heap.accountedOkI mods&&(SF w.params os).heap.isNs mainGlobals&&(SF w.params os).heap.isNs builtinsNs&&tablesOk q0 (SF w.params os).heap&&Xt (SF w.params os)&&(if true=true then (SF w.params os).gens.size==0 else !leftWithCleanup (SF w.params os).gens))=true:=by kernel_rfl
theorem lk8(w:World)(os:OsState):tabsOk q0 (SF w.params os)=true:=by kernel_rfl
theorem lk9(w:World)(os:OsState):(pinSeenD q0 (drecsOf q0) (SF w.params os),plainSeenE q0 (looseW q0 loose) (SF w.params os),plainSeenD q0 loose (SF w.params os),wideSeen q0 (SF w.params os),clsSeenW q0 loose (SF w.params os))=(pinGoodD (drecsOf q0),plainGoodE q0 (looseW q0 loose),plainGoodD q0 loose,wideGood q0,clsGoodW q0 loose):=by kernel_rfl
noncomputable def OT(w:World)(os:OsState):=(seen ((recsOf q0).map (·.name)) (ownsOf q0) [] {SF w.params os with gens:=#[]},(SF w.params os).heap.bltView,((SF w.params os).heap.keysOk (looseW q0 loose) ((recsOf q0).map (·.name)) ((litsOf q0).map (·.1)) ((clssOf q0 (looseW q0 loose)).map (·.name))&&(SF w.params os).heap.accountedOkI mods&&(SF w.params os).heap.isNs mainGlobals&&(SF w.params os).heap.isNs builtinsNs&&tablesOk q0 (SF w.params os).heap&&Xt (SF w.params os)&&(if true=true then (SF w.params os).gens.size==0 else !leftWithCleanup (SF w.params os).gens)),tabsOk q0 (SF w.params os),(pinSeenD q0 (drecsOf q0) (SF w.params os),plainSeenE q0 (looseW q0 loose) (SF w.params os),plainSeenD q0 loose (SF w.params os),wideSeen q0 (SF w.params os),clsSeenW q0 loose (SF w.params os)))
noncomputable def OG:=(expectedOf q0,bltViewBooted,true,true,(pinGoodD (drecsOf q0),plainGoodE q0 (looseW q0 loose),plainGoodD q0 loose,wideGood q0,clsGoodW q0 loose))
theorem ot1(w:World)(os:OsState):OS w os=OT w os:=by kernel_rfl
theorem ot2:OG=openGood q0 loose:=by kernel_rfl
theorem ot3(w:World)(os:OsState):OT w os=OG:=looks_pair (lk5 w os) (looks_pair (lk6 w os) (looks_pair (lk7 w os) (looks_pair (lk8 w os) (lk9 w os))))
theorem xh5(w:World)(os:OsState):openSeen q0 loose mods Xt true (SF w.params os)=openGood q0 loose:=(ot1 w os).trans ((ot3 w os).trans ot2)
theorem tw1:TablesWhole.wModule TablesWhole.holds pw.main=true:=by
 rewrite [PySem.W.Fast.te6116379765354995101]
 show PySem.W.Fast.tw6116379765354995101 (⟨fun sc n zz=>sc.bears n,fun zz zz zz ok=>ok,fun zz=>true,true,false,fun a b=>a&&b⟩:TablesWhole.Alg Bool) pw.main=true
 rewrite [PySem.W.Fast.te15985051520779696433]
 kernel_rfl
theorem HG{t:BT}{n:Nat}{life:Life}{a:Addr}{o:Obj}(h:t.get a=some o)(ha:a<n)(hf:o.isFreed=false):(absHeap t n life).get? a=some o:=by
 have e:=absHeap_at t n life a
 rw[if_pos ha,h] at e
 unfold Heap.get?
 rw[e]
 obtain⟨c,d,dt,sl⟩:=o
 cases dt<;>first|rfl|cases hf
theorem Wp(P:Params):((KF P).all fun p=>Nat.blt p.1 1513&& !p.2.isFreed)=true:=by kernel_rfl
theorem xcW(P:Params):KA.map (HF P).get?=(KF P).map fun p=>some p.2:=by
 have h:=kt1 P
 rw[AN P,List.map_map] at h ⊢
 refine List.map_congr_left fun p hp=>?_
 have h1:=List.map_inj_left.mp h p hp
 have h2:=List.all_eq_true.mp (Wp P) p hp
 simp only[Bool.and_eq_true,Bool.not_eq_true'] at h2
 exact HG h1 (Nat.le_of_ble_eq_true h2.1) h2.2
theorem gX(P:Params):((T5 P).get 429,(T5 P).get 1077)=(some (tabObj #[]),some (tabObj #[])):=by kernel_rfl
theorem xcX(P:Params):[429,1077].map (HF P).get?=[429,1077].map fun zz=>some (tabObj #[]):=by
 have h:=Prod.mk.inj (gX P)
 show[(HF P).get? 429,(HF P).get? 1077]=[some (tabObj #[]),some (tabObj #[])]
 rw[show(HF P).get? 429=_ from HG h.1 (Nat.le_of_ble_eq_true rfl) rfl,show(HF P).get? 1077=_ from HG h.2 (Nat.le_of_ble_eq_true rfl) rfl]
noncomputable abbrev HK:Hook:=kmHook KF KA AN [429,1077]
theorem Ym:pw.tablesWhole=true:=by
 show TablesWhole.holds.all [TablesWhole.wModule TablesWhole.holds pw.main,_,_,_]=true
 rw[tw1]
 rfl
theorem xd9:LeftO pw q0 loose Xt HK.obs HK.val 20000:=
 LeftO.of_pieces (H₀:=boot_heap) (H₁:=HF) (gs₀:=⟨[]⟩) (gs₁:=⟨[]⟩) (d₀:=boot_drawn) (d₁:=d0) (k₀:=boot_toks) (k₁:=2382) (m₀:=11) (ann:=ann) (M:=M) op xih xh4 le1 fun w=>by
  funext os
  refine Prod.ext ?_ (Prod.ext (xh5 w os) (Prod.ext (xcW w.params) (xcX w.params)))
  show(_&&_)=true
  rw[Bool.and_eq_true,Bool.and_eq_true,Bool.and_eq_true]
  exact⟨⟨⟨lk1 w os,lk2 w os⟩,lk3 w os⟩,lk4 w os⟩
theorem Ie(Po:rr.wellSaid=true)(hw:rr.toRowW.promised):∀(d:DefRec) (BD:List (Str×Expr)) (Bn:defOf q0 rr.name=some (d,BD)) (hp:rr.prog.theDef rr.name=some (d.params,d.body,d.scope)) (hk:kwWritten? d.params.kwonlyargs d.params.kw_defaults=some BD),
  WalkO q0 loose (fun mg h=>XL q0 [] mg h) HK.says rr.toRowW d BD (fun f vs=>PySem.call f vs)→rr.Holds:=by
 intro d BD Bn hp hk hc
 exact holds_open (q:=q0) (loose:=loose) (Xt:=Xt) (XP:=XL q0 []) (Yf:=HK.obs) (Ya:=HK.val) (YP:=HK.says) (N:=20000) xd9 (Hook.of HK) (Hook.keeps HK) (fun s e=>xl_of s (Bool.and_eq_true_iff.mp e).1) XL.keeps Bn hp hk (fun s e=>recFacts_of (Bool.and_eq_true_iff.mp e).2) rfl Po (by decide+kernel) ⟨rfl,rfl,rfl,rfl,rfl,Ym⟩ hw hc
theorem sdt:PySem.W.Fast.tw12908688711261696721 (PySem.W.Fast.tw2368527892694137696 PySem.Challenge.rw_pq1369_01).prog=true:=by
 delta PySem.W.Fast.tw12908688711261696721
 refine look_both ?x ?_
 iterate 20 (all_goals (try exists look_both ?_ ?_))
 all_goals as_aux_lemma=>kernel_rfl
theorem sd0:(PySem.W.Fast.tw2368527892694137696 PySem.Challenge.rw_pq1369_01).wellSaid=true:=by
 rewrite [PySem.W.Fast.te17960256430627541270]
 delta PySem.W.Fast.tw17960256430627541270
 refine look_both (look_both ?x ?_) ?_
 delta PySem.W.Fast.tw2436336058641802641
 refine look_both ?y ?_
 iterate 20 (all_goals (try exists look_both ?_ ?_))
 all_goals first|with_reducible exact sdt|as_aux_lemma=>kernel_rfl
theorem sd:PySem.Challenge.rw_pq1369_01.wellSaid=true:=by
 have h:=(congrFun PySem.W.Fast.te17960256430627541270 _).symm.trans sd0
 rewrite [PySem.W.Fast.te9446332074065402090]
 delta PySem.W.Fast.tw9446332074065402090
 refine look_both ?x ?_
 iterate 20 (all_goals (try exists look_both ?_ ?_))
 all_goals first|with_reducible exact h|as_aux_lemma=>kernel_rfl
structure Gx where
 gw:World
 gp:Program
 gl:List Str
 gm:ExcName→Option Value
 gg:Str→Option Value
 gb:Str→Option Value
 gh:Heap
section
variable {gx:Gx} {af:Program} {w:World} {p:Program} {dT:List Str} {BP:ExcName→Option Value} {mg:Str→Option Value} {mb:Str→Option Value} {aH:Around} {A:Around} {xjC:Heap} {ae:Heap} {aE:List Env} {az:Env} {L:Addr} {dp:Nat} {un:Nat} {s:Shared} {ai:Shared} {l:List (Str×Value)} {aa:List (Addr×Obj)} {ag:List (Addr×Obj)} {R:Result→Shared→Prop} {E:Value→Shared→Prop} {M:Model} {Q:Value→Shared→Prop} {x:Str} {y:Str} {cl:List (Str×Addr)} {aq:Scope} {aI:Pos} {name:Str} {a:Addr} {cd:Value} {ev:Env} {v:Value} {v0:Value} {v1:Value} {v2:Value} {us:List (Str×List Str)} {W:List Addr} {o:Obj} {al:List (Str×Value)} {aK:List (Str×Int)} {nm:Str} {ba:Array Value} {bL:List Stmt} {aJ:List Expr} {ms:List Str}
theorem iu{bF:Type}{p:bF→Prop}{a:bF}(z:p a):∃a,p a:=⟨_,z⟩
theorem aN{bF bJ:Type}{p:bF→bJ→Prop}{a:bF}{b:bJ}(z:p a b):∃a b,p a b:=⟨_,_,z⟩
theorem eK{bF bJ bS:Type}{p:bF→bJ→bS→Prop}{a:bF}{b:bJ}{c:bS}(z:p a b c):∃a b c,p a b c:=⟨_,_,_,z⟩
theorem gJ{bF bJ bS bY:Type}{p:bF→bJ→bS→bY→Prop}{a:bF}{b:bJ}{c:bS}{d:bY}(z:p a b c d):∃a b c d,p a b c d:=⟨_,_,_,_,z⟩
theorem iy{bF bJ bS bY b9:Type}{p:bF→bJ→bS→bY→b9→Prop}{a:bF}{b:bJ}{c:bS}{d:bY}{e:b9}(z:p a b c d e):∃a b c d e,p a b c d e:=⟨_,_,_,_,_,z⟩
theorem xI6{bF bJ bS bY b9 cH:Type}{p:bF→bJ→bS→bY→b9→cH→Prop}{a:bF}{b:bJ}{c:bS}{d:bY}{e:b9}{f:cH}(z:p a b c d e f):∃a b c d e f,p a b c d e f:=⟨_,_,_,_,_,_,z⟩
theorem Wa{bF bJ bS bY b9 cH cY:Type}{p:bF→bJ→bS→bY→b9→cH→cY→Prop}{a:bF}{b:bJ}{c:bS}{d:bY}{e:b9}{f:cH}{g:cY}(z:p a b c d e f g):∃a b c d e f g,p a b c d e f g:=⟨_,_,_,_,_,_,_,z⟩
theorem xI8{bF bJ bS bY b9 cH cY dH:Type}{p:bF→bJ→bS→bY→b9→cH→cY→dH→Prop}{a:bF}{b:bJ}{c:bS}{d:bY}{e:b9}{f:cH}{g:cY}{h:dH}(z:p a b c d e f g h):∃a b c d e f g h,p a b c d e f g h:=⟨_,_,_,_,_,_,_,_,z⟩
theorem PY{bF bJ bS bY b9 cH cY dH ek:Type}{p:bF→bJ→bS→bY→b9→cH→cY→dH→ek→Prop}{a:bF}{b:bJ}{c:bS}{d:bY}{e:b9}{f:cH}{g:cY}{h:dH}{i:ek}(z:p a b c d e f g h i):∃a b c d e f g h i,p a b c d e f g h i:=⟨_,_,_,_,_,_,_,_,_,z⟩
theorem PW{bF bJ bS bY b9 cH cY dH ek ff:Type}{p:bF→bJ→bS→bY→b9→cH→cY→dH→ek→ff→Prop}{a:bF}{b:bJ}{c:bS}{d:bY}{e:b9}{f:cH}{g:cY}{h:dH}{i:ek}{j:ff}(z:p a b c d e f g h i j):∃a b c d e f g h i j,p a b c d e f g h i j:=⟨_,_,_,_,_,_,_,_,_,_,z⟩
theorem PX{bF bJ bS bY b9 cH cY dH ek ff gf:Type}{p:bF→bJ→bS→bY→b9→cH→cY→dH→ek→ff→gf→Prop}{a:bF}{b:bJ}{c:bS}{d:bY}{e:b9}{f:cH}{g:cY}{h:dH}{i:ek}{j:ff}{k:gf}(z:p a b c d e f g h i j k):∃a b c d e f g h i j k,p a b c d e f g h i j k:=⟨_,_,_,_,_,_,_,_,_,_,_,z⟩
theorem AL{bF bJ bS bY b9 cH cY dH ek ff gf i9:Type}{p:bF→bJ→bS→bY→b9→cH→cY→dH→ek→ff→gf→i9→Prop}{a:bF}{b:bJ}{c:bS}{d:bY}{e:b9}{f:cH}{g:cY}{h:dH}{i:ek}{j:ff}{k:gf}{l:i9}(z:p a b c d e f g h i j k l):∃a b c d e f g h i j k l,p a b c d e f g h i j k l:=⟨_,_,_,_,_,_,_,_,_,_,_,_,z⟩
theorem xkT{bF bJ bS bY b9 cH cY dH ek ff gf i9 mr:Type}{p:bF→bJ→bS→bY→b9→cH→cY→dH→ek→ff→gf→i9→mr→Prop}{a:bF}{b:bJ}{c:bS}{d:bY}{e:b9}{f:cH}{g:cY}{h:dH}{i:ek}{j:ff}{k:gf}{l:i9}{m:mr}(z:p a b c d e f g h i j k l m):∃a b c d e f g h i j k l m,p a b c d e f g h i j k l m:=⟨_,_,_,_,_,_,_,_,_,_,_,_,_,z⟩
theorem xkU{bF bJ bS bY b9 cH cY dH ek ff gf i9 mr GV:Type}{p:bF→bJ→bS→bY→b9→cH→cY→dH→ek→ff→gf→i9→mr→GV→Prop}{a:bF}{b:bJ}{c:bS}{d:bY}{e:b9}{f:cH}{g:cY}{h:dH}{i:ek}{j:ff}{k:gf}{l:i9}{m:mr}{n:GV}(z:p a b c d e f g h i j k l m n):∃a b c d e f g h i j k l m n,p a b c d e f g h i j k l m n:=⟨_,_,_,_,_,_,_,_,_,_,_,_,_,_,z⟩
theorem bC{P0 P1:Prop}(a:P0)(b:P1):P0∧P1:=⟨a,b⟩
theorem aR{P0 P1 P2:Prop}(a:P0)(b:P1)(c:P2):P0∧P1∧P2:=⟨a,b,c⟩
theorem bW{P0 P1 P2 P3:Prop}(a:P0)(b:P1)(c:P2)(d:P3):P0∧P1∧P2∧P3:=⟨a,b,c,d⟩
theorem iL{P0 P1 P2 P3 P4:Prop}(a:P0)(b:P1)(c:P2)(d:P3)(e:P4):P0∧P1∧P2∧P3∧P4:=⟨a,b,c,d,e⟩
theorem nu{P0 P1 P2 P3 P4 P5:Prop}(a:P0)(b:P1)(c:P2)(d:P3)(e:P4)(f:P5):P0∧P1∧P2∧P3∧P4∧P5:=⟨a,b,c,d,e,f⟩
theorem pq{P0 P1 P2 P3 P4 P5 P6:Prop}(a:P0)(b:P1)(c:P2)(d:P3)(e:P4)(f:P5)(g:P6):P0∧P1∧P2∧P3∧P4∧P5∧P6:=⟨a,b,c,d,e,f,g⟩
theorem uL{P0 P1 P2 P3 P4 P5 P6 P7:Prop}(a:P0)(b:P1)(c:P2)(d:P3)(e:P4)(f:P5)(g:P6)(h:P7):P0∧P1∧P2∧P3∧P4∧P5∧P6∧P7:=⟨a,b,c,d,e,f,g,h⟩
theorem pt{P0 P1 P2 P3 P4 P5 P6 P7 P8:Prop}(a:P0)(b:P1)(c:P2)(d:P3)(e:P4)(f:P5)(g:P6)(h:P7)(i:P8):P0∧P1∧P2∧P3∧P4∧P5∧P6∧P7∧P8:=⟨a,b,c,d,e,f,g,h,i⟩
theorem xkV{P0 P1 P2 P3 P4 P5 P6 P7 P8 P9:Prop}(a:P0)(b:P1)(c:P2)(d:P3)(e:P4)(f:P5)(g:P6)(h:P7)(i:P8)(j:P9):P0∧P1∧P2∧P3∧P4∧P5∧P6∧P7∧P8∧P9:=⟨a,b,c,d,e,f,g,h,i,j⟩
theorem xkW{P0 P1 P2 P3 P4 P5 P6 P7 P8 P9 jM:Prop}(a:P0)(b:P1)(c:P2)(d:P3)(e:P4)(f:P5)(g:P6)(h:P7)(i:P8)(j:P9)(k:jM):P0∧P1∧P2∧P3∧P4∧P5∧P6∧P7∧P8∧P9∧jM:=⟨a,b,c,d,e,f,g,h,i,j,k⟩
theorem xkX{P0 P1 P2 P3 P4 P5 P6 P7 P8 P9 jM uR:Prop}(a:P0)(b:P1)(c:P2)(d:P3)(e:P4)(f:P5)(g:P6)(h:P7)(i:P8)(j:P9)(k:jM)(l:uR):P0∧P1∧P2∧P3∧P4∧P5∧P6∧P7∧P8∧P9∧jM∧uR:=⟨a,b,c,d,e,f,g,h,i,j,k,l⟩
theorem aS{bF:Type}{p:bF→Prop}{G:Prop}(x:∃a,p a)(y:∀a,p a→G):G:=x.elim fun a z=>y a z
theorem aP{bF bJ:Type}{p:bF→bJ→Prop}{G:Prop}(x:∃a b,p a b)(y:∀a b,p a b→G):G:=x.elim fun a z=>aS z (y a)
theorem cQ{bF bJ bS:Type}{p:bF→bJ→bS→Prop}{G:Prop}(x:∃a b c,p a b c)(y:∀a b c,p a b c→G):G:=x.elim fun a z=>aP z (y a)
theorem cB{bF bJ bS bY:Type}{p:bF→bJ→bS→bY→Prop}{G:Prop}(x:∃a b c d,p a b c d)(y:∀a b c d,p a b c d→G):G:=x.elim fun a z=>cQ z (y a)
theorem eY{bF bJ bS bY b9:Type}{p:bF→bJ→bS→bY→b9→Prop}{G:Prop}(x:∃a b c d e,p a b c d e)(y:∀a b c d e,p a b c d e→G):G:=x.elim fun a z=>cB z (y a)
theorem f9{bF bJ bS bY b9 cH:Type}{p:bF→bJ→bS→bY→b9→cH→Prop}{G:Prop}(x:∃a b c d e f,p a b c d e f)(y:∀a b c d e f,p a b c d e f→G):G:=x.elim fun a z=>eY z (y a)
theorem xE7{bF bJ bS bY b9 cH cY:Type}{p:bF→bJ→bS→bY→b9→cH→cY→Prop}{G:Prop}(x:∃a b c d e f g,p a b c d e f g)(y:∀a b c d e f g,p a b c d e f g→G):G:=x.elim fun a z=>f9 z (y a)
theorem V9{bF bJ bS bY b9 cH cY dH:Type}{p:bF→bJ→bS→bY→b9→cH→cY→dH→Prop}{G:Prop}(x:∃a b c d e f g h,p a b c d e f g h)(y:∀a b c d e f g h,p a b c d e f g h→G):G:=x.elim fun a z=>xE7 z (y a)
theorem lu{bF bJ bS bY b9 cH cY dH ek:Type}{p:bF→bJ→bS→bY→b9→cH→cY→dH→ek→Prop}{G:Prop}(x:∃a b c d e f g h i,p a b c d e f g h i)(y:∀a b c d e f g h i,p a b c d e f g h i→G):G:=x.elim fun a z=>V9 z (y a)
theorem V7{bF bJ bS bY b9 cH cY dH ek ff:Type}{p:bF→bJ→bS→bY→b9→cH→cY→dH→ek→ff→Prop}{G:Prop}(x:∃a b c d e f g h i j,p a b c d e f g h i j)(y:∀a b c d e f g h i j,p a b c d e f g h i j→G):G:=x.elim fun a z=>lu z (y a)
theorem kG{bF bJ bS bY b9 cH cY dH ek ff gf:Type}{p:bF→bJ→bS→bY→b9→cH→cY→dH→ek→ff→gf→Prop}{G:Prop}(x:∃a b c d e f g h i j k,p a b c d e f g h i j k)(y:∀a b c d e f g h i j k,p a b c d e f g h i j k→G):G:=x.elim fun a z=>V7 z (y a)
theorem V8{bF bJ bS bY b9 cH cY dH ek ff gf i9:Type}{p:bF→bJ→bS→bY→b9→cH→cY→dH→ek→ff→gf→i9→Prop}{G:Prop}(x:∃a b c d e f g h i j k l,p a b c d e f g h i j k l)(y:∀a b c d e f g h i j k l,p a b c d e f g h i j k l→G):G:=x.elim fun a z=>kG z (y a)
theorem xjx{bF bJ bS bY b9 cH cY dH ek ff gf i9 mr:Type}{p:bF→bJ→bS→bY→b9→cH→cY→dH→ek→ff→gf→i9→mr→Prop}{G:Prop}(x:∃a b c d e f g h i j k l m,p a b c d e f g h i j k l m)(y:∀a b c d e f g h i j k l m,p a b c d e f g h i j k l m→G):G:=x.elim fun a z=>V8 z (y a)
theorem xkS{bF bJ bS bY b9 cH cY dH ek ff gf i9 mr GV:Type}{p:bF→bJ→bS→bY→b9→cH→cY→dH→ek→ff→gf→i9→mr→GV→Prop}{G:Prop}(x:∃a b c d e f g h i j k l m n,p a b c d e f g h i j k l m n)(y:∀a b c d e f g h i j k l m n,p a b c d e f g h i j k l m n→G):G:=x.elim fun a z=>xjx z (y a)
theorem ay{P0 P1 G:Prop}(x:P0∧P1)(y:P0→P1→G):G:=y x.1 x.2
theorem aO{P0 P1 P2 G:Prop}(x:P0∧P1∧P2)(y:P0→P1→P2→G):G:=ay x.2 (y x.1)
theorem bB{P0 P1 P2 P3 G:Prop}(x:P0∧P1∧P2∧P3)(y:P0→P1→P2→P3→G):G:=aO x.2 (y x.1)
theorem eJ{P0 P1 P2 P3 P4 G:Prop}(x:P0∧P1∧P2∧P3∧P4)(y:P0→P1→P2→P3→P4→G):G:=bB x.2 (y x.1)
theorem kF{P0 P1 P2 P3 P4 P5 G:Prop}(x:P0∧P1∧P2∧P3∧P4∧P5)(y:P0→P1→P2→P3→P4→P5→G):G:=eJ x.2 (y x.1)
theorem pk{P0 P1 P2 P3 P4 P5 P6 G:Prop}(x:P0∧P1∧P2∧P3∧P4∧P5∧P6)(y:P0→P1→P2→P3→P4→P5→P6→G):G:=kF x.2 (y x.1)
theorem GR{P0 P1 P2 P3 P4 P5 P6 P7 G:Prop}(x:P0∧P1∧P2∧P3∧P4∧P5∧P6∧P7)(y:P0→P1→P2→P3→P4→P5→P6→P7→G):G:=pk x.2 (y x.1)
theorem PV{P0 P1 P2 P3 P4 P5 P6 P7 P8 G:Prop}(x:P0∧P1∧P2∧P3∧P4∧P5∧P6∧P7∧P8)(y:P0→P1→P2→P3→P4→P5→P6→P7→P8→G):G:=GR x.2 (y x.1)
theorem uK{P0 P1 P2 P3 P4 P5 P6 P7 P8 P9 G:Prop}(x:P0∧P1∧P2∧P3∧P4∧P5∧P6∧P7∧P8∧P9)(y:P0→P1→P2→P3→P4→P5→P6→P7→P8→P9→G):G:=PV x.2 (y x.1)
theorem xjw{P0 P1 P2 P3 P4 P5 P6 P7 P8 P9 jM G:Prop}(x:P0∧P1∧P2∧P3∧P4∧P5∧P6∧P7∧P8∧P9∧jM)(y:P0→P1→P2→P3→P4→P5→P6→P7→P8→P9→jM→G):G:=uK x.2 (y x.1)
theorem xkR{P0 P1 P2 P3 P4 P5 P6 P7 P8 P9 jM uR G:Prop}(x:P0∧P1∧P2∧P3∧P4∧P5∧P6∧P7∧P8∧P9∧jM∧uR)(y:P0→P1→P2→P3→P4→P5→P6→P7→P8→P9→jM→uR→G):G:=xjw x.2 (y x.1)
def sq(l:Array Lean.Syntax):Lean.Syntax:= .node .none `Lean.Parser.Tactic.tacticSeq #[.node .none `Lean.Parser.Tactic.tacticSeq1Indented #[.node .none `null l]]
def sI:Lean.Syntax:= .node .none `Lean.Parser.Tactic.intros #[.atom .none "intros",.node .none `null #[]]
def sS:Lean.Syntax:= .atom .none ";"
def sK:Lean.Syntax:= .node .none `tacticKernel_rfl #[.atom .none "kernel_rfl"]
def sR:Lean.Syntax:= .node .none `Lean.Parser.Tactic.tacticRfl #[.atom .none "rfl"]
def kr:Lean.Syntax:=sq #[sK]
def rf:Lean.Syntax:=sq #[sR]
def wr:Lean.Syntax:=sq #[.node .none `Lean.Parser.Tactic.withUnfoldingAll #[.atom .none "with_unfolding_all",rf]]
def ik:Lean.Syntax:=sq #[sI,sS,sK]
def ir:Lean.Syntax:=sq #[sI,sS,sR]
def iw:Lean.Syntax:=sq #[sI,sS,.node .none `Lean.Parser.Tactic.withUnfoldingAll #[.atom .none "with_unfolding_all",rf]]
def bk:Lean.Syntax:=sq #[sI,sS,.node .none `Lean.Parser.Tactic.apply #[.atom .none "apply",.ident .none "PySem.BindsTo.of_eq".toRawSubstring `PySem.BindsTo.of_eq []],sS,sK]
@[reducible] noncomputable def kE (M:Model) (A:Around) (az:Env) (aJ:List Stmt) (Q:Flow→Shared→Prop) (E:Value→Shared→Prop):Flow→Shared→Prop:=fun f s'=>match f with
 | .next=>wpAny M A (execs aJ az) Q E s'
 |f=>Q f s'
@[reducible] noncomputable def kC (Q E:Value→Shared→Prop):Result→Shared→Prop:=fun r s'=>match r with
 | .ok (.ret v)=>Q v s'
 | .ok _=>False
 | .error e=>E e s'
@[reducible] noncomputable def kB (M:Model) (A:Around) (ev:Env) (Q:Flow→Shared→Prop) (E:Value→Shared→Prop):Except Value Flow→Shared→Prop:=fun r s'=>match r with
 | .ok f=>Q f s'
 | .error e=>cameBackBy M A ev E e s'
@[reducible] noncomputable def kL (T:Shared→Prop) (Q:Flow→Shared→Prop):Flow→Shared→Prop:=fun f s'=>match f with
 | .next| .cont=>T s'
 | .brk=>Q .next s'
 | .ret v=>Q (.ret v) s'
theorem qp{T:Shared→Prop}{T':Prop}{Q:Flow→Shared→Prop}{f:Flow}(h:kL T Q f s)(k:T s→T'):kL (fun zz=>T') Q f s:=by cases f<;>first|exact k h|exact h
theorem aG{a b:Nat}(h:autoParam (Nat.ble a b=true) rf):a≤b:=Nat.le_of_ble_eq_true h
theorem cO{b:Bool}(h:b=false):¬b=true:=Bool.eq_false_iff.mp h
theorem bX{α:Type}{vs:Array α}{n:Nat}(h:vs.toList.length=n):vs.size=n:=h
theorem TX{a0 a1 a2 a3:Nat}(h0:a1≤a3)(h1:(a0+a3)<a2):(a0+a1)<a2:=by lia
theorem om1{a0 a1 a2:Nat}(h0:(a0+(a1+3))<a2):((a0+3)+a1)<a2:=by lia
theorem OJ{a0 a1 a2:Nat}(h0:(a0+(a1+1))<a2):((a0+1)+a1)<a2:=by lia
theorem om3{a0 a1:Nat}(h0:a0≤(a1+1)):a0≤(a1+1):=h0
theorem oN{a0 a1:Nat}(h0:a1<a0):((a0+1)- (a1+1))<((a0+1)- a1):=by rw[Nat.add_sub_add_right,Nat.sub_add_comm (Nat.le_of_lt h0)];exact Nat.lt_succ_self _
theorem OM{a0 a1 a2:Nat}(h0:a2≤a1)(h1:a0<a2):a0<a1:=Nat.le_trans h1 h0
theorem Gg{a0 a1 a2:Nat}(h0:(a0+(a2+1))<a1):a0<a1:=by lia
theorem om7{a0 a1:Nat}(h0:a0≤a1)(h1:a0≥a1):a0=a1:=by lia
theorem om8{a0:Nat}(h0:a0≤2):a0≤100:=Nat.le_trans h0 (by decide)
theorem om9{a0 a1:Nat}(h0:a1≤200)(h1:a0=a1):a0≤16777216:=Nat.le_trans (Nat.le_trans (Nat.le_of_eq h1) h0) (by decide)
theorem xeR{a0:Int}{a1:Nat}(h0:(Int.toNat a0)<a1):a0<(a1:Int):=Int.lt_of_le_of_lt (Int.self_le_toNat a0) (Int.ofNat_lt.mpr h0)
theorem xeW{a0:Int}(h0:0≤a0):¬(a0<0):=Int.not_lt.mpr h0
theorem T7{a0:Nat}(h0:a0≤16777216):(a0:Int)<(2^63):=Int.lt_of_le_of_lt (Int.ofNat_le.mpr (h0)) (by decide)
theorem xfd{a0:Int}(h0:0≤a0):(-(2^63))≤a0:=Int.le_trans (by decide) h0
theorem xfj{a0 a1 a2:Nat}(h0:(a0+(a1+3))<a2):((a0+1)+a1)<a2:=by lia
theorem Uf{a0 a1 a2:Nat}(h0:a1<1000)(h1:a2≤a1)(h2:a0≤(a2+1)):a0≤1000:=by lia
theorem xfx{a0:Int}:((a0- 1)+1)=a0:=by lia
theorem xfI{a0:Int}(h0:a0<1099511627776):(a0+(1- 1))<2099511627776:=by lia
theorem xfJ{a0:Int}(h0:0≤a0):0≤(a0+(1- 1)):=by lia
theorem xfK{a0:Int}(h0:a0<1099511627776):a0<2099511627776:=Int.lt_of_lt_of_le h0 (by decide)
theorem xfL{a0:Int}(h0:0≤a0)(h1:a0<2099511627776):((-(2^63))≤a0)∧(a0<(2^63)):=⟨Int.le_trans (by decide) h0,Int.lt_trans h1 (by decide)⟩
theorem xfM{a0:Int}:(a0- (((Int.toNat a0):Nat):Int))≤0:=by lia
theorem xfN{a0:Int}{a1:Nat}:(a0- ((a1:Int)+1))=((a0- (a1:Int))- 1):=by lia
theorem xfO{a0:Int}{a1:Nat}(h0:a1<(Int.toNat a0)):0<(a0- (a1:Int)):=by lia
theorem OK{a0 a1:Nat}(h0:a0≤a1)(h1:¬(a0<a1)):a0=a1:=by lia
theorem xfP{a0 a1:Nat}(h0:a0≤a1):a0≤a1:=h0
theorem xfQ{a0 a1 a2 a3:Nat}(h0:a2≤a1)(h1:a0≤a3)(h2:a3<a2):a0≤a1:=Nat.le_of_lt (Nat.lt_of_le_of_lt h1 (Nat.lt_of_lt_of_le h2 h0))
theorem xfR{a0 a1:Nat}(h0:a0≤a1):a0≤(a1+1):=Nat.le_succ_of_le h0
theorem OL{a0 a1:Nat}(h0:a1=a0):a0≤(Int.toNat (a1:Int)):=Nat.le_of_eq h0.symm
theorem Gf{a0 a1:Nat}(h0:a1≤16777216)(h1:a0<a1):(a0:Int)<(2^63):=Int.lt_trans (Int.ofNat_lt.mpr (Nat.lt_of_lt_of_le h1 h0)) (by decide)
theorem Uj{a0 a1 a2 a3 a4:Nat}(h0:a2≤a1)(h1:a3<a2)(h2:a0=a4)(h3:a4≤a3):a0≤a1:=Nat.le_of_lt (Nat.lt_of_le_of_lt (Nat.le_of_eq h2) (Nat.lt_of_le_of_lt h3 (Nat.lt_of_lt_of_le h1 h0)))
theorem Uk{a0 a1 a2:Nat}(h0:a0<a2)(h1:a2=a1):a0<a1:=Nat.lt_of_lt_of_le h0 (Nat.le_of_eq h1)
theorem Ul{a0:Nat}(h0:a0≤16777216):(a0:Int)<1099511627776:=Int.lt_of_le_of_lt (Int.ofNat_le.mpr (h0)) (by decide)
theorem xfS{a0 a1 a2:Nat}(h0:a2=a1):(min a0 a1)≤(Int.toNat (a2:Int)):=Nat.le_trans (Nat.min_le_right _ _) (Nat.le_of_eq h0.symm)
theorem xfT{a0 a1 a2 a3 a4 a5 a6 a7:Nat}(h0:a2≤a1)(h1:a3=a4)(h2:a5<a6)(h3:a6=a3)(h4:a2=a4)(h5:a0=a7)(h6:a7≤a5):a0≤a1:=Nat.le_of_lt (Nat.lt_of_le_of_lt (Nat.le_of_eq h5) (Nat.lt_of_le_of_lt h6 (Nat.lt_of_lt_of_le h2 (Nat.le_trans (Nat.le_of_eq h3) (Nat.le_trans (Nat.le_of_eq h1) (Nat.le_trans (Nat.le_of_eq h4.symm) h0))))))
theorem xfU{a0 a1:Nat}(h0:a1=a0):(min a0 a1)=a1:=by lia
theorem xfV{a0 a1 a2 a3:Nat}(h0:a2=a1)(h1:a0<a3)(h2:a3=a2):a0<a1:=Nat.lt_of_lt_of_le h1 (Nat.le_trans (Nat.le_of_eq h2) (Nat.le_of_eq h0))
theorem xfW{a0:Nat}(h0:a0≤16777216):a0≤16777216:=h0
theorem xfX{a0:Nat}:(-(2^63))≤(a0:Int):=by lia
theorem xfY{a0:Nat}:(a0+3)≤(a0+15):=by lia
theorem xfZ{a0:Nat}:(a0+1)≤(a0+5):=by lia
theorem xf0{a0:Nat}:1≤(a0+1):=by lia
theorem xf1{a0 a1 a2:Nat}(h0:a1≤20000)(h1:a0=a2)(h2:a2≤a1):(a0+1)≤16777216:=by lia
theorem Um{a0:Nat}:(Int.toNat ((a0:Int)- 1))=(a0- 1):=Int.toNat_sub a0 1
theorem xf2{a0 a1 a2:Nat}(h0:a1≤20000)(h1:a0=a2)(h2:a2≤a1):((a0:Int)- 1)<(2^63):=Int.lt_of_le_of_lt (Int.sub_le_self _ (by decide)) (Int.lt_of_le_of_lt (Int.ofNat_le.mpr (Nat.le_trans (Nat.le_of_eq h1) (Nat.le_trans h2 h0))) (by decide))
theorem Un{a0:Nat}(h0:(a0- 1)<a0):0≤((a0:Int)- 1):=by lia
theorem xf3{a0 a1:Nat}(h0:a0=a1)(h1:1≤a1):(a0- 1)<a0:=by lia
theorem xf4{a0 a1 a2:Nat}(h0:a2=a0)(h1:¬(a1<a2)):a0≤a1:=Nat.le_trans (Nat.le_of_eq h0.symm) (Nat.le_of_not_lt h1)
theorem xf5{a0 a1 a2:Nat}(h0:((a0+1)+a1)=a2):(a0+(a1+1))=a2:=by lia
theorem xf6{a0 a1 a2 a3 a4:Nat}(h0:(a0+a1)=a2)(h1:a3=a4)(h2:a4≤a2)(h3:a1<a3):a0=((a0- 1)+1):=(Nat.sub_add_cancel (Nat.pos_of_ne_zero fun h=>absurd (Nat.lt_of_lt_of_le (Nat.lt_of_lt_of_le h3 (Nat.le_of_eq h1)) h2) (by rw[←h0,h,Nat.zero_add];exact Nat.lt_irrefl _))).symm
theorem ON{a0 a1 a2:Nat}(h0:a2=a0)(h1:a2≤a1):a0≤a1:=Nat.le_trans (Nat.le_of_eq h0.symm) h1
theorem xf7{a0 a1 a2:Nat}(h0:a1≤20000)(h1:a2≤a1)(h2:a0≤(a2+1)):a0≤16777216:=by lia
theorem Uo{a0 a1 a2:Nat}(h0:a1≤20000)(h1:a0=a2)(h2:a2≤a1):a0≤16777216:=Nat.le_trans (Nat.le_trans (Nat.le_of_eq h1) (Nat.le_trans h2 h0)) (by decide)
theorem xf8{a0 a1 a2 a3:Nat}(h0:a1≤20000)(h1:a2=a3)(h2:a3≤a1)(h3:a0<a2):(a0:Int)<(2^63):=Int.lt_trans (Int.ofNat_lt.mpr (Nat.lt_of_lt_of_le h3 (Nat.le_trans (Nat.le_of_eq h1) (Nat.le_trans h2 h0)))) (by decide)
theorem fK{a0 a1:Nat}(h0:a1=a0):a0≤a1:=(Nat.le_of_eq h0.symm)
theorem xf9{a0 a1 a2 a3:Nat}(h0:a2≤a1)(h1:a0=a3)(h2:a2=a3):a0≤a1:=Nat.le_trans (Nat.le_of_eq h1) (Nat.le_trans (Nat.le_of_eq h2.symm) h0)
theorem xga{a0 a1 a2 a3 a4 a5 a6:Nat}(h0:a2≤a1)(h1:a3<a4)(h2:a0=a5)(h3:a5≤a3)(h4:a2=a6)(h5:a4=a6):a0≤a1:=Nat.le_of_lt (Nat.lt_of_le_of_lt (Nat.le_of_eq h2) (Nat.lt_of_le_of_lt h3 (Nat.lt_of_lt_of_le h1 (Nat.le_trans (Nat.le_of_eq h5) (Nat.le_trans (Nat.le_of_eq h4.symm) h0)))))
theorem xgb{a0 a1 a2 a3 a4 a5 a6 a7 a8:Nat}(h0:a2≤a1)(h1:a3<a4)(h2:a0=a5)(h3:a5≤a3)(h4:a6=(min a7 a8))(h5:a2=a7)(h6:a4=a6):a0≤a1:=Nat.le_trans (Nat.le_of_eq h2) (Nat.le_trans h3 (Nat.le_trans (Nat.le_of_lt h1) (Nat.le_trans (Nat.le_of_eq (h6.trans h4)) (Nat.le_trans (Nat.min_le_left _ _) (Nat.le_trans (Nat.le_of_eq h5.symm) h0)))))
theorem OO{a0 a1:Nat}(h0:a1=0):¬(a0<a1):=by lia
theorem xgc{a0 a1 a2:Nat}(h0:a1=a2)(h1:a0<a2):(a0:Int)<(a1:Int):=Int.ofNat_lt.mpr (Nat.lt_of_lt_of_le h1 (Nat.le_of_eq h0.symm))
theorem oO{a0 a1:Nat}(h0:a1≤1000)(h1:a0<a1):(a0:Int)<(2^63):=Int.lt_trans (Int.ofNat_lt.mpr (Nat.lt_of_lt_of_le h1 h0)) (by decide)
theorem xgd{a0 a1 a2 a3 a4:Nat}(h0:a1≤1000)(h1:a2≤a1)(h2:a3≤a2)(h3:a4≤a3)(h4:a0=a4):a0≤16777216:=Nat.le_trans (Nat.le_trans (Nat.le_of_eq h4) (Nat.le_trans h3 (Nat.le_trans h2 (Nat.le_trans h1 h0)))) (by decide)
theorem xge{a0 a1 a2 a3:Nat}(h0:a2=a3)(h1:a1=a2)(h2:a0<a3):a0<a1:=Nat.lt_of_lt_of_le h2 (Nat.le_trans (Nat.le_of_eq h0.symm) (Nat.le_of_eq h1.symm))
theorem Uq{a0 a1 a2:Nat}(h0:a2=a1)(h1:a0<a2):a0<a1:=Nat.lt_of_lt_of_le h1 (Nat.le_of_eq h0)
theorem OP{a0:Nat}(h0:a0≤1000):(a0:Int)<1099511627776:=Int.lt_of_le_of_lt (Int.ofNat_le.mpr (h0)) (by decide)
theorem oP{a0:Nat}(h0:a0≤1000):a0≤16777216:=Nat.le_trans h0 (by decide)
theorem Ur{a0 a1 a2:Nat}(h0:a1=a2)(h1:a0<a2):a0<a1:=Nat.lt_of_lt_of_le h1 (Nat.le_of_eq h0.symm)
theorem OQ{a0 a1 a2:Nat}(h0:a1≤1000)(h1:a0<a2)(h2:a1=a2):(a0:Int)<(2^63):=Int.lt_trans (Int.ofNat_lt.mpr (Nat.lt_of_lt_of_le h1 (Nat.le_trans (Nat.le_of_eq h2.symm) h0))) (by decide)
theorem xgf{a0 a1:Nat}(h0:a0=a1):¬(a0<a1):=by lia
theorem xgg{a0 a1:Nat}(h0:a1=a0):(a0- a1)=0:=by rw[h0];exact Nat.sub_self _
theorem xgh{a0 a1:Nat}(h0:a0≤a1)(h1:a1≤a0):a0=a1:=by lia
theorem xgi{a0 a1 a2 a3 a4:Nat}(h0:a2=a3)(h1:a1=a2)(h2:(a3- a0)=(a4+1)):(a0:Int)<(a1:Int):=Int.ofNat_lt.mpr (by rw[h1,h0];exact Nat.lt_of_sub_eq_succ h2)
theorem xgj{a0 a1 a2 a3:Nat}(h0:a1≤1000)(h1:a1=a2)(h2:(a2- a0)=(a3+1)):(a0:Int)<(2^63):=Int.lt_trans (Int.ofNat_lt.mpr (Nat.lt_of_lt_of_le (Nat.lt_of_sub_eq_succ h2) (Nat.le_trans (Nat.le_of_eq h1.symm) h0))) (by decide)
theorem xgk{a0 a1 a2:Nat}(h0:a1≤1000)(h1:a2≤a1)(h2:a0=a2):a0≤16777216:=Nat.le_trans (Nat.le_trans (Nat.le_of_eq h2) (Nat.le_trans h1 h0)) (by decide)
theorem Us{a0 a1 a2:Nat}(h0:(a0- a1)=(a2+1)):(a0- (a1+1))=a2:=by rw[Nat.sub_add_eq,h0];rfl
theorem xgl{a0 a1 a2:Nat}(h0:(a1- a0)=(a2+1)):(a0+1)≤a1:=Nat.lt_of_sub_eq_succ h0
theorem xgm{a0 a1 a2:Nat}(h0:(a1- a2)=(a0+1)):a0=(a1- (a2+1)):=by rw[Nat.sub_add_eq,h0];rfl
theorem xgn{a0 a1 a2:Nat}(h0:(a1- a2)=(a0+1)):a0<(a1- a2):=by lia
theorem xgo{a0 a1:Nat}(h0:a1<a0):(a0- a1)=(((a0- a1)- 1)+1):=(Nat.sub_add_cancel (Nat.sub_pos_of_lt h0)).symm
theorem xgp{a0 a1 a2 a3:Nat}(h0:a1=a2)(h1:a3=a2)(h2:a0<a3):a0<a1:=Nat.lt_of_lt_of_le h2 (Nat.le_trans (Nat.le_of_eq h1) (Nat.le_of_eq h0.symm))
theorem Gh{a0 a1:Nat}(h0:a1≤1000)(h1:a0=a1):a0≤1000:=Nat.le_trans (Nat.le_of_eq h1) h0
theorem OR{a0 a1:Nat}(h0:a1≤1000)(h1:a0=a1):a0≤16777216:=Nat.le_trans (Nat.le_trans (Nat.le_of_eq h1) h0) (by decide)
theorem xgq{a0:Int}{a1:Nat}(h0:a1≤1000)(h1:(Int.toNat a0)<a1):a0<(2^63):=Int.lt_of_le_of_lt (Int.self_le_toNat a0) (Int.lt_trans (Int.ofNat_lt.mpr (Nat.lt_of_lt_of_le h1 h0)) (by decide))
theorem xgr{a0 a1:Nat}(h0:a0≤a1)(h1:a1≤20000):a0≤20000:=Nat.le_trans h0 h1
theorem Gi{a0:Nat}(h0:a0=0):a0=0:=h0
theorem xgs{a0 a1:Nat}(h0:a0=a1)(h1:a1≤20000):(1+a0)≤16777216:=by lia
theorem xgt{a0 a1:Nat}(h0:a0≤(0+1))(h1:a1≤(0+1)):(a0+a1)≤16777216:=by lia
theorem xgu{a0 a1:Nat}(h0:a1≤1)(h1:a0=a1):a0≤16777216:=Nat.le_trans (Nat.le_trans (Nat.le_of_eq h1) h0) (by decide)
theorem xgv{a0 a1:Nat}(h0:a0=a1)(h1:a1≤1):a0≤16777216:=Nat.le_trans (Nat.le_trans (Nat.le_of_eq h0) h1) (by decide)
theorem Ut{a0 a1 a2 a3:Nat}(h0:a0≤(a3+a2))(h1:a3≤(a1+1)):a0≤(a1+(a2+1)):=by lia
theorem Uu{a0 a1 a2:Nat}(h0:a0=a1)(h1:a1≤(1+(min a2 2))):a0≤16777216:=Nat.le_trans (Nat.le_of_eq h0) (Nat.le_trans h1 (Nat.le_trans (Nat.add_le_add_left (Nat.min_le_right _ _) 1) (by decide)))
theorem xgw{a0 a1 a2:Nat}(h0:a0=a1)(h1:a1≤(1+(min a2 1))):a0≤16777216:=Nat.le_trans (Nat.le_of_eq h0) (Nat.le_trans h1 (Nat.le_trans (Nat.add_le_add_left (Nat.min_le_right _ _) 1) (by decide)))
theorem xgx{a0:Nat}(h0:a0≤16777216):((a0:Int)- 1)<(2^63):=by lia
theorem xgy{a0 a1 a2:Nat}(h0:a1≤60)(h1:a0=a2)(h2:a2=a1):a0≤16777216:=Nat.le_trans (Nat.le_trans (Nat.le_of_eq h1) (Nat.le_trans (Nat.le_of_eq h2) h0)) (by decide)
theorem xgz{a0 a1 a2:Nat}(h0:a0=a1)(h1:a1=a2)(h2:1≤a2):(a0- 1)<a0:=Nat.sub_lt (by rw[h0,h1];exact h2) Nat.one_pos
theorem xgA{a0:Nat}(h0:a0≤60):a0<64:=Nat.lt_of_le_of_lt h0 (by decide)
theorem xgB{a0:Nat}:((a0+3)+1)≤(a0+18):=by lia
theorem xgC{a0:Nat}:(a0+1)≤(a0+6):=by lia
theorem Uv{a0 a1 a2:Nat}(h0:a1≤60)(h1:a2≤a1)(h2:a0≤(a2+1)):a0≤16777216:=by lia
theorem Uw{a0 a1 a2:Nat}(h0:a1≤60)(h1:a0=a2)(h2:a2≤a1):a0≤16777216:=Nat.le_trans (Nat.le_trans (Nat.le_of_eq h1) (Nat.le_trans h2 h0)) (by decide)
theorem Ge{a0 a1:Nat}(h0:(a1≤2)∧(1≤a1))(h1:a0<a1):(a0:Int)<(2^63):=Int.lt_trans (Int.ofNat_lt.mpr (Nat.lt_of_lt_of_le h1 h0.1)) (by decide)
theorem TY{a0 a1:Nat}(h0:a0<(Int.toNat (a1:Int))):a0<a1:=Nat.succ_le_of_lt h0
theorem TZ{a0 a1:Nat}(h0:(a1≤2)∧(1≤a1))(h1:a0=a1):(a0:Int)<1099511627776:=Int.lt_of_le_of_lt (Int.ofNat_le.mpr (Nat.le_trans (Nat.le_of_eq h1) h0.1)) (by decide)
theorem T6{a0 a1:Nat}(h0:(a1≤2)∧(1≤a1))(h1:a0=a1):a0≤16777216:=Nat.le_trans (Nat.le_trans (Nat.le_of_eq h1) h0.1) (by decide)
theorem xeS{a0:Nat}:3<((((((0+1)+1)+1)+1)+1)+a0):=by lia
theorem xeT{a0 a1:Nat}(h0:a0≤a1)(h1:a1≤10000):a0≤16777216:=Nat.le_trans (Nat.le_trans h0 h1) (by decide)
theorem xeU{a0 a1:Nat}(h0:6≤a1):(((a0+a1)- 6)+6)≤(a0+a1):=Nat.le_of_eq (Nat.sub_add_cancel (Nat.le_trans h0 (Nat.le_add_left _ _)))
theorem xeV{a0 a1:Nat}(h0:2≤a1):(((a0+a1)- 2)+2)≤(a0+a1):=Nat.le_of_eq (Nat.sub_add_cancel (Nat.le_trans h0 (Nat.le_add_left _ _)))
theorem OE{a0 a1:Nat}(h0:a0=a1)(h1:a1≤100):a0≤16777216:=Nat.le_trans (Nat.le_trans (Nat.le_of_eq h0) h1) (by decide)
theorem nc{a0 a1:Nat}(h0:a1≤100)(h1:a0=a1):a0≤16777216:=Nat.le_trans (Nat.le_trans (Nat.le_of_eq h1) h0) (by decide)
theorem xeX{a0 a1:Nat}(h0:(a0+a1)≤10000):(a0+a1)≤16777216:=Nat.le_trans h0 (by decide)
theorem xeY{a0 a1 a2 a3:Nat}(h0:a1<a2)(h1:a0≤a1)(h2:a2=a3)(h3:a3≤1):a0≤16777216:=Nat.le_trans (Nat.le_of_lt (Nat.lt_of_le_of_lt h1 (Nat.lt_of_lt_of_le h0 (Nat.le_trans (Nat.le_of_eq h2) h3)))) (by decide)
theorem xeZ{a0 a1 a2:Nat}(h0:a2=a0)(h1:a1≥a2):a0≤a1:=Nat.le_trans (Nat.le_of_eq h0.symm) h1
theorem xe0{a0 a1 a2:Nat}(h0:a0=a1)(h1:¬(a0=a2))(h2:a2=a1):False:=by lia
theorem xe1{a0 a1 a2 a3:Nat}(h0:a2=a0)(h1:a3=a1)(h2:a2=a3):a0=a1:=by lia
theorem xe2{a0:Int}(h0:0<a0):a0≠0:=by lia
theorem xe3{a0:Nat}(h0:a0≤10000):a0≤16777216:=Nat.le_trans h0 (by decide)
theorem xe4{a0 a1 a2:Nat}(h0:(a0+a2)<a1):a0<a1:=by lia
theorem xe5{a0 a1 a2:Nat}(h0:a0≤(a2*100))(h1:a2≤100)(h2:a1≤100):(((a0+a1)+((0+1)+1))+1)≤11000:=by lia
theorem xe6{a0 a1 a2:Nat}(h0:a0≤100)(h1:a1≤(a2*100)):(a0+a1)≤((a2+1)*100):=by lia
theorem xe7{a0 a1 a2:Nat}(h0:a1<a2)(h1:a2≤a0):(a0- a1)=(((a0- a1)- 1)+1):=(Nat.sub_add_cancel (Nat.sub_pos_of_lt (Nat.lt_of_lt_of_le h0 h1))).symm
theorem xe8{a0 a1 a2:Nat}(h0:a1≤11000)(h1:a2≤a1)(h2:a0=a2):a0≤16777216:=Nat.le_trans (Nat.le_trans (Nat.le_of_eq h2) (Nat.le_trans h1 h0)) (by decide)
theorem xe9{a0 a1 a2 a3 a4:Nat}(h0:a1≤100)(h1:a2≤(a1+a3))(h2:a3≤a4)(h3:a4≤100)(h4:a0=a2):a0≤16777216:=by lia
theorem xfa{a0 a1 a2:Nat}(h0:(a0+(a2+3))<a1):a0<a1:=by lia
theorem xfb{a0 a1:Nat}(h0:a0=a1)(h1:a1≤11000):a0≤16777216:=Nat.le_trans (Nat.le_trans (Nat.le_of_eq h0) h1) (by decide)
theorem Ah{a0 a1 a2:Nat}(h0:a0≤((a1+1)+a2)):a0≤(a1+(a2+1)):=by lia
theorem T8{a0 a1 a2 a3:Nat}(h0:a1≤(a0+a2))(h1:a2<a3)(h2:a3≤a1):a0=((a0- 1)+1):=by lia
theorem Ai{a0 a1 a2:Nat}(h0:a2≤(0+a1))(h1:a0≤a2):a0≤a1:=by lia
theorem OF{a0:Nat}:a0≤(a0+0):=by lia
theorem xfc{a0 a1:Nat}:a0≤((a1+a0)+0):=by lia
theorem xfe{a0 a1:Nat}:a0≤((a0+a1)+0):=by lia
theorem xff{a0 a1:Nat}(h0:a1≤1200)(h1:a0≤a1):a0≤10000:=Nat.le_trans (Nat.le_trans h1 h0) (by decide)
theorem xfg{a0 a1:Nat}(h0:a1≤1200)(h1:a0≤a1):a0≤16777216:=Nat.le_trans (Nat.le_trans h1 h0) (by decide)
theorem xfh{a0:Nat}(h0:a0≤1200):a0≤16777216:=Nat.le_trans h0 (by decide)
theorem xfi{a0 a1 a2:Nat}(h0:a1≤100)(h1:a2≤a1)(h2:a0≤(a2*12)):a0≤1200:=by lia
theorem T9{a0 a1:Nat}(h0:a0≤((a1*12)+(Int.toNat 12))):a0≤((a1+1)*12):=by lia
theorem Ua{a0 a1 a2:Nat}(h0:a0≤((a1*12)+a2)):(a0+1)≤((a1*12)+(a2+1)):=Nat.lt_succ_of_le h0
theorem Ub{a0 a1 a2:Nat}(h0:a0≤((a1*12)+a2))(h1:a2<12):(a0+1)≤((a1+1)*12):=by lia
theorem Uc{a0 a1 a2:Nat}(h0:a0≤((a1*12)+a2))(h1:a2<12)(h2:a1<100):a0≤16777216:=Nat.le_trans h0 (Nat.le_trans (Nat.add_le_add (Nat.mul_le_mul_right _ (Nat.le_of_lt h2)) (Nat.le_of_lt h1)) (by decide))
theorem Ud{a0 a1 a2:Nat}(h0:a1≤100)(h1:a2≤a1)(h2:a0<a2):a0<100:=Nat.lt_of_lt_of_le h2 (Nat.le_trans h1 h0)
theorem xfk{a0:Nat}(h0:a0≤100):a0≤16777216:=Nat.le_trans h0 (by decide)
theorem xfl{a0 a1:Nat}(h0:a0<(a1+1))(h1:a0≥a1):a0=a1:=by lia
theorem xfm{a0 a1 a2:Nat}(h0:a0<(a2+1))(h1:a2<a1):a0<a1:=Nat.le_trans h0 h1
theorem xfn{a0:Nat}(h0:a0≤10):a0≤60:=Nat.le_trans h0 (by decide)
theorem xfo{a0 a1 a2:Nat}(h0:0<a0)(h1:(a0+a1)=a2)(h2:a2=0):False:=by lia
theorem xfp{a0 a1:Nat}(h0:0<a0):0<(a0+a1):=by lia
theorem Aj{a0 a1 a2:Nat}(h0:(a0+(a2+33))<a1):a0<a1:=by lia
theorem OH{a0:Nat}(h0:a0≤50):a0≤100:=Nat.le_trans h0 (by decide)
theorem Ue{a0:Nat}(h0:a0=5):a0≤16777214:=Nat.le_trans ((Nat.le_of_eq h0)) (by decide)
theorem xfq{a0:Nat}(h0:a0=5):a0≤16777213:=Nat.le_trans ((Nat.le_of_eq h0)) (by decide)
theorem xfr{a0 a1 a2 a3:Nat}(h0:a1≤50)(h1:a0=(a2+3))(h2:a3≤a1)(h3:a2=a3):a0≤1000:=by lia
theorem xfs{a0 a1:Nat}(h0:a0=(a1+3)):(a0+1)=((a1+1)+3):=by lia
theorem xft{a0 a1 a2 a3:Nat}(h0:a1≤50)(h1:a0=(a2+3))(h2:a2<a3)(h3:a3≤a1):a0≤16777216:=by lia
theorem OI{a0 a1 a2:Nat}(h0:a0<a2)(h1:a1=a2):a0<a1:=Nat.lt_of_lt_of_le h0 (Nat.le_of_eq h1.symm)
theorem xfu{a0:Int}(h0:a0<11):(Int.toNat a0)≤50:=by lia
theorem Ug{a0 a1:Nat}(h0:a1<11)(h1:a0≤a1):a0≤16777216:=Nat.le_trans (Nat.le_of_lt (Nat.lt_of_le_of_lt h1 h0)) (by decide)
theorem Uh{a0:Nat}(h0:a0<11):a0<100:=Nat.le_trans h0 (by decide)
theorem Ui{a0:Nat}(h0:a0≤9):a0≤100:=Nat.le_trans h0 (by decide)
theorem xfv{a0:Nat}(h0:a0<11):a0≤100:=Nat.le_trans (Nat.le_of_lt (h0)) (by decide)
theorem xfw{a0:Nat}{a1:Int}(h0:a1<11)(h1:a0<(Int.toNat a1)):a0<11:=Nat.lt_of_lt_of_le h1 (Int.toNat_le.mpr (Int.le_of_lt h0))
theorem xfy{a0:Nat}{a1:Int}(h0:a1<5)(h1:a0=(Int.toNat a1)):a0≤9:=Nat.le_trans (Nat.le_of_eq h1) (Nat.le_trans (Int.toNat_le.mpr (Int.le_of_lt h0)) (by decide))
theorem xfz{a0:Int}(h0:a0<6):(Int.toNat a0)<6:=by lia
theorem xfA{a0:Int}(h0:a0<9):a0<(2^63):=Int.lt_of_lt_of_le h0 (by decide)
theorem xfB{a0:Int}(h0:a0<9):(Int.toNat a0)<9:=(Int.toNat_lt' (by decide)).mpr h0
theorem xfC{a0:Int}(h0:a0<5):(Int.toNat a0)≤16777216:=by lia
theorem xfD{a0:Int}(h0:a0<5):a0<1099511627776:=Int.lt_of_lt_of_le h0 (by decide)
theorem xfE{a0:Int}(h0:a0<5):a0<(2^63):=Int.lt_of_lt_of_le h0 (by decide)
theorem xfF{a0:Int}(h0:a0<5):(Int.toNat a0)<5:=by lia
theorem xfG{a0:Int}(h0:a0<11):a0<1099511627776:=Int.lt_of_lt_of_le h0 (by decide)
theorem xfH{a0:Nat}(h0:¬(63<(a0:Int))):a0≤100:=by lia
noncomputable def dY(l:List (Str×Value)):Str→Option Value:=fun y=>l.lookup y
theorem BL(x:Str)(v:Value)(l:List (Str×Value)):(fun y=>if y=x then some v else dY l y)=dY ((x,v)::l):=by
 funext y
 unfold dY
 rw[List.lookup_cons]
 by_cases h:y=x
 ·subst h;simp
 ·rw[if_neg h,beq_false_of_ne h]
theorem ah:List.lookup x ((x,v)::l)=some v:=by simp[List.lookup_cons]
theorem am{u:Value}(h2:List.lookup x l=some v)(h:autoParam ((x==y)=false) kr):List.lookup x ((y,u)::l)=some v:=by rw[List.lookup_cons,h];exact h2
theorem aB{y0 y1:Str}{u0 u1:Value}(h:l.lookup x=some v)(h0:autoParam ((x==y0)=false) kr)(h1:autoParam ((x==y1)=false) kr):((y0,u0)::(y1,u1)::l).lookup x=some v:=am (am h h1) h0
theorem aV{y0 y1 y2:Str}{u0 u1 u2:Value}(h:l.lookup x=some v)(h0:autoParam ((x==y0)=false) kr)(h1:autoParam ((x==y1)=false) kr)(h2:autoParam ((x==y2)=false) kr):((y0,u0)::(y1,u1)::(y2,u2)::l).lookup x=some v:=am (am (am h h2) h1) h0
theorem bR{y0 y1 y2 y3:Str}{u0 u1 u2 u3:Value}(h:l.lookup x=some v)(h0:autoParam ((x==y0)=false) kr)(h1:autoParam ((x==y1)=false) kr)(h2:autoParam ((x==y2)=false) kr)(h3:autoParam ((x==y3)=false) kr):((y0,u0)::(y1,u1)::(y2,u2)::(y3,u3)::l).lookup x=some v:=am (am (am (am h h3) h2) h1) h0
theorem i1{y0 y1 y2 y3 y4:Str}{u0 u1 u2 u3 u4:Value}(h:l.lookup x=some v)(h0:autoParam ((x==y0)=false) kr)(h1:autoParam ((x==y1)=false) kr)(h2:autoParam ((x==y2)=false) kr)(h3:autoParam ((x==y3)=false) kr)(h4:autoParam ((x==y4)=false) kr):((y0,u0)::(y1,u1)::(y2,u2)::(y3,u3)::(y4,u4)::l).lookup x=some v:=am (am (am (am (am h h4) h3) h2) h1) h0
theorem m4{y0 y1 y2 y3 y4 y5:Str}{u0 u1 u2 u3 u4 u5:Value}(h:l.lookup x=some v)(h0:autoParam ((x==y0)=false) kr)(h1:autoParam ((x==y1)=false) kr)(h2:autoParam ((x==y2)=false) kr)(h3:autoParam ((x==y3)=false) kr)(h4:autoParam ((x==y4)=false) kr)(h5:autoParam ((x==y5)=false) kr):((y0,u0)::(y1,u1)::(y2,u2)::(y3,u3)::(y4,u4)::(y5,u5)::l).lookup x=some v:=am (am (am (am (am (am h h5) h4) h3) h2) h1) h0
theorem lj7{y0 y1 y2 y3 y4 y5 y6:Str}{u0 u1 u2 u3 u4 u5 u6:Value}(h:l.lookup x=some v)(h0:autoParam ((x==y0)=false) kr)(h1:autoParam ((x==y1)=false) kr)(h2:autoParam ((x==y2)=false) kr)(h3:autoParam ((x==y3)=false) kr)(h4:autoParam ((x==y4)=false) kr)(h5:autoParam ((x==y5)=false) kr)(h6:autoParam ((x==y6)=false) kr):((y0,u0)::(y1,u1)::(y2,u2)::(y3,u3)::(y4,u4)::(y5,u5)::(y6,u6)::l).lookup x=some v:=am (am (am (am (am (am (am h h6) h5) h4) h3) h2) h1) h0
theorem lj8{y0 y1 y2 y3 y4 y5 y6 y7:Str}{u0 u1 u2 u3 u4 u5 u6 u7:Value}(h:l.lookup x=some v)(h0:autoParam ((x==y0)=false) kr)(h1:autoParam ((x==y1)=false) kr)(h2:autoParam ((x==y2)=false) kr)(h3:autoParam ((x==y3)=false) kr)(h4:autoParam ((x==y4)=false) kr)(h5:autoParam ((x==y5)=false) kr)(h6:autoParam ((x==y6)=false) kr)(h7:autoParam ((x==y7)=false) kr):((y0,u0)::(y1,u1)::(y2,u2)::(y3,u3)::(y4,u4)::(y5,u5)::(y6,u6)::(y7,u7)::l).lookup x=some v:=am (am (am (am (am (am (am (am h h7) h6) h5) h4) h3) h2) h1) h0
theorem lj9{y0 y1 y2 y3 y4 y5 y6 y7 y8:Str}{u0 u1 u2 u3 u4 u5 u6 u7 u8:Value}(h:l.lookup x=some v)(h0:autoParam ((x==y0)=false) kr)(h1:autoParam ((x==y1)=false) kr)(h2:autoParam ((x==y2)=false) kr)(h3:autoParam ((x==y3)=false) kr)(h4:autoParam ((x==y4)=false) kr)(h5:autoParam ((x==y5)=false) kr)(h6:autoParam ((x==y6)=false) kr)(h7:autoParam ((x==y7)=false) kr)(h8:autoParam ((x==y8)=false) kr):((y0,u0)::(y1,u1)::(y2,u2)::(y3,u3)::(y4,u4)::(y5,u5)::(y6,u6)::(y7,u7)::(y8,u8)::l).lookup x=some v:=am (am (am (am (am (am (am (am (am h h8) h7) h6) h5) h4) h3) h2) h1) h0
theorem xjO{y0 y1 y2 y3 y4 y5 y6 y7 y8 y9:Str}{u0 u1 u2 u3 u4 u5 u6 u7 u8 u9:Value}(h:l.lookup x=some v)(h0:autoParam ((x==y0)=false) kr)(h1:autoParam ((x==y1)=false) kr)(h2:autoParam ((x==y2)=false) kr)(h3:autoParam ((x==y3)=false) kr)(h4:autoParam ((x==y4)=false) kr)(h5:autoParam ((x==y5)=false) kr)(h6:autoParam ((x==y6)=false) kr)(h7:autoParam ((x==y7)=false) kr)(h8:autoParam ((x==y8)=false) kr)(h9:autoParam ((x==y9)=false) kr):((y0,u0)::(y1,u1)::(y2,u2)::(y3,u3)::(y4,u4)::(y5,u5)::(y6,u6)::(y7,u7)::(y8,u8)::(y9,u9)::l).lookup x=some v:=am (am (am (am (am (am (am (am (am (am h h9) h8) h7) h6) h5) h4) h3) h2) h1) h0
theorem xjP{y0 y1 y2 y3 y4 y5 y6 y7 y8 y9 g0:Str}{u0 u1 u2 u3 u4 u5 u6 u7 u8 u9 kD:Value}(h:l.lookup x=some v)(h0:autoParam ((x==y0)=false) kr)(h1:autoParam ((x==y1)=false) kr)(h2:autoParam ((x==y2)=false) kr)(h3:autoParam ((x==y3)=false) kr)(h4:autoParam ((x==y4)=false) kr)(h5:autoParam ((x==y5)=false) kr)(h6:autoParam ((x==y6)=false) kr)(h7:autoParam ((x==y7)=false) kr)(h8:autoParam ((x==y8)=false) kr)(h9:autoParam ((x==y9)=false) kr)(fX:autoParam ((x==g0)=false) kr):((y0,u0)::(y1,u1)::(y2,u2)::(y3,u3)::(y4,u4)::(y5,u5)::(y6,u6)::(y7,u7)::(y8,u8)::(y9,u9)::(g0,kD)::l).lookup x=some v:=am (am (am (am (am (am (am (am (am (am (am h fX) h9) h8) h7) h6) h5) h4) h3) h2) h1) h0
theorem xea{y0 y1 y2 y3 y4 y5 y6 y7 y8 y9 g0 i8:Str}{u0 u1 u2 u3 u4 u5 u6 u7 u8 u9 kD mm:Value}(h:l.lookup x=some v)(h0:autoParam ((x==y0)=false) kr)(h1:autoParam ((x==y1)=false) kr)(h2:autoParam ((x==y2)=false) kr)(h3:autoParam ((x==y3)=false) kr)(h4:autoParam ((x==y4)=false) kr)(h5:autoParam ((x==y5)=false) kr)(h6:autoParam ((x==y6)=false) kr)(h7:autoParam ((x==y7)=false) kr)(h8:autoParam ((x==y8)=false) kr)(h9:autoParam ((x==y9)=false) kr)(fX:autoParam ((x==g0)=false) kr)(jU:autoParam ((x==i8)=false) kr):((y0,u0)::(y1,u1)::(y2,u2)::(y3,u3)::(y4,u4)::(y5,u5)::(y6,u6)::(y7,u7)::(y8,u8)::(y9,u9)::(g0,kD)::(i8,mm)::l).lookup x=some v:=am (am (am (am (am (am (am (am (am (am (am (am h jU) fX) h9) h8) h7) h6) h5) h4) h3) h2) h1) h0
theorem SM{y0 y1 y2 y3 y4 y5 y6 y7 y8 y9 g0 i8 kH:Str}{u0 u1 u2 u3 u4 u5 u6 u7 u8 u9 kD mm pg:Value}(h:l.lookup x=some v)(h0:autoParam ((x==y0)=false) kr)(h1:autoParam ((x==y1)=false) kr)(h2:autoParam ((x==y2)=false) kr)(h3:autoParam ((x==y3)=false) kr)(h4:autoParam ((x==y4)=false) kr)(h5:autoParam ((x==y5)=false) kr)(h6:autoParam ((x==y6)=false) kr)(h7:autoParam ((x==y7)=false) kr)(h8:autoParam ((x==y8)=false) kr)(h9:autoParam ((x==y9)=false) kr)(fX:autoParam ((x==g0)=false) kr)(jU:autoParam ((x==i8)=false) kr)(lE:autoParam ((x==kH)=false) kr):((y0,u0)::(y1,u1)::(y2,u2)::(y3,u3)::(y4,u4)::(y5,u5)::(y6,u6)::(y7,u7)::(y8,u8)::(y9,u9)::(g0,kD)::(i8,mm)::(kH,pg)::l).lookup x=some v:=am (am (am (am (am (am (am (am (am (am (am (am (am h lE) jU) fX) h9) h8) h7) h6) h5) h4) h3) h2) h1) h0
theorem xjQ{y0 y1 y2 y3 y4 y5 y6 y7 y8 y9 g0 i8 kH nw:Str}{u0 u1 u2 u3 u4 u5 u6 u7 u8 u9 kD mm pg AF:Value}(h:l.lookup x=some v)(h0:autoParam ((x==y0)=false) kr)(h1:autoParam ((x==y1)=false) kr)(h2:autoParam ((x==y2)=false) kr)(h3:autoParam ((x==y3)=false) kr)(h4:autoParam ((x==y4)=false) kr)(h5:autoParam ((x==y5)=false) kr)(h6:autoParam ((x==y6)=false) kr)(h7:autoParam ((x==y7)=false) kr)(h8:autoParam ((x==y8)=false) kr)(h9:autoParam ((x==y9)=false) kr)(fX:autoParam ((x==g0)=false) kr)(jU:autoParam ((x==i8)=false) kr)(lE:autoParam ((x==kH)=false) kr)(pY:autoParam ((x==nw)=false) kr):((y0,u0)::(y1,u1)::(y2,u2)::(y3,u3)::(y4,u4)::(y5,u5)::(y6,u6)::(y7,u7)::(y8,u8)::(y9,u9)::(g0,kD)::(i8,mm)::(kH,pg)::(nw,AF)::l).lookup x=some v:=am (am (am (am (am (am (am (am (am (am (am (am (am (am h pY) lE) jU) fX) h9) h8) h7) h6) h5) h4) h3) h2) h1) h0
theorem xjR{y0 y1 y2 y3 y4 y5 y6 y7 y8 y9 g0 i8 kH nw AM:Str}{u0 u1 u2 u3 u4 u5 u6 u7 u8 u9 kD mm pg AF PL:Value}(h:l.lookup x=some v)(h0:autoParam ((x==y0)=false) kr)(h1:autoParam ((x==y1)=false) kr)(h2:autoParam ((x==y2)=false) kr)(h3:autoParam ((x==y3)=false) kr)(h4:autoParam ((x==y4)=false) kr)(h5:autoParam ((x==y5)=false) kr)(h6:autoParam ((x==y6)=false) kr)(h7:autoParam ((x==y7)=false) kr)(h8:autoParam ((x==y8)=false) kr)(h9:autoParam ((x==y9)=false) kr)(fX:autoParam ((x==g0)=false) kr)(jU:autoParam ((x==i8)=false) kr)(lE:autoParam ((x==kH)=false) kr)(pY:autoParam ((x==nw)=false) kr)(nR:autoParam ((x==AM)=false) kr):((y0,u0)::(y1,u1)::(y2,u2)::(y3,u3)::(y4,u4)::(y5,u5)::(y6,u6)::(y7,u7)::(y8,u8)::(y9,u9)::(g0,kD)::(i8,mm)::(kH,pg)::(nw,AF)::(AM,PL)::l).lookup x=some v:=am (am (am (am (am (am (am (am (am (am (am (am (am (am (am h nR) pY) lE) jU) fX) h9) h8) h7) h6) h5) h4) h3) h2) h1) h0
theorem xjS{y0 y1 y2 y3 y4 y5 y6 y7 y8 y9 g0 i8 kH nw AM Wg:Str}{u0 u1 u2 u3 u4 u5 u6 u7 u8 u9 kD mm pg AF PL u15:Value}(h:l.lookup x=some v)(h0:autoParam ((x==y0)=false) kr)(h1:autoParam ((x==y1)=false) kr)(h2:autoParam ((x==y2)=false) kr)(h3:autoParam ((x==y3)=false) kr)(h4:autoParam ((x==y4)=false) kr)(h5:autoParam ((x==y5)=false) kr)(h6:autoParam ((x==y6)=false) kr)(h7:autoParam ((x==y7)=false) kr)(h8:autoParam ((x==y8)=false) kr)(h9:autoParam ((x==y9)=false) kr)(fX:autoParam ((x==g0)=false) kr)(jU:autoParam ((x==i8)=false) kr)(lE:autoParam ((x==kH)=false) kr)(pY:autoParam ((x==nw)=false) kr)(nR:autoParam ((x==AM)=false) kr)(pZ:autoParam ((x==Wg)=false) kr):((y0,u0)::(y1,u1)::(y2,u2)::(y3,u3)::(y4,u4)::(y5,u5)::(y6,u6)::(y7,u7)::(y8,u8)::(y9,u9)::(g0,kD)::(i8,mm)::(kH,pg)::(nw,AF)::(AM,PL)::(Wg,u15)::l).lookup x=some v:=am (am (am (am (am (am (am (am (am (am (am (am (am (am (am (am h pZ) nR) pY) lE) jU) fX) h9) h8) h7) h6) h5) h4) h3) h2) h1) h0
noncomputable def bt:Stmt→List Stmt
 | .FunctionDef _ _ b _ _ _ _ _ _ _=>b
 |_=>[]
noncomputable def bg:Stmt→Scope
 | .FunctionDef _ _ _ _ _ _ s _ _ _=>s
 |_=>default
noncomputable def md:Stmt→Arguments
 | .FunctionDef _ a _ _ _ _ _ _ _ _=>a
 |_=>default
noncomputable def m8:Stmt→Str
 | .FunctionDef n _ _ _ _ _ _ _ _ _=>n
 |_=>default
theorem lb(h:(aq.names.all fun x=>x.2 != .cell)=true):∀x∈aq.names,x.2≠.cell:=fun x hx=>by
 have:=List.all_eq_true.mp h x hx
 simpa using this
theorem xeQ{a b:String}(h:Str.ofString a=Str.ofString b):a=b:=by
 rw[Str.ofString_eq_toList,Str.ofString_eq_toList] at h
 have h1:=congrArg (fun s=>s.cps.toList) h
 simp only at h1
 have:a.toList=b.toList:=by
  refine(List.map_inj_right ?_).mp h1
  intro x y hxy
  exact Char.ext (UInt32.toNat_inj.mp hxy)
 exact String.toList_injective this
theorem jj{a b:String}(h:(a==b)=false):(q a==q b)=false:=by
 rw[beq_eq_false_iff_ne] at h ⊢
 exact fun e=>h (xeQ e)
theorem t1{α β:Type}{a a':α}{b b':β}(h:(a,b)=(a',b')):a=a':=congrArg Prod.fst h
theorem t2{α β:Type}{a a':α}{b b':β}(h:(a,b)=(a',b')):b=b':=congrArg Prod.snd h
theorem kk{e:Env}{o:Option NameKind}(h:autoParam (e.kindOf x=o) kr):e.kindOf x=o:=h
theorem nk(h:autoParam ((x==y)=false) kr):(x==y)=false:=h
theorem kf{c:Scope}{o:ScopeKind}(h:autoParam (c.kind=o) kr):c.kind=o:=h
structure Cx(gx:Gx)(aH A:Around)(ae:Heap)(aE:List Env)(az:Env)(L:Addr)(dp un:Nat):Prop where
 B:Below aH gx.gh aE ae
 X:(KF gx.gw.params).In ae
 T:Top gx.gp gx.gl gx.gm gx.gg gx.gb ae
 hA:A.frames=some (az::aE)
 hf:az.frame=some L
 hk:az.scope.kind= .function
 hh:A.handled=none
 hd:A.depth+dp<recursionLimit
 hu:A.units+un<cLine
structure St(ai:Shared)(ae:Heap)(L:Addr)(s:Shared)(l:List (Str×Value))(aa:List (Addr×Obj)):Prop where
 F:Fr ae L s.heap (dY l)
 N:News ae L s.heap aa
 D:(aa.map (·.1)).Nodup
 R:s={ai with heap:=s.heap,toks:=s.toks}
theorem mY{b:Bool}{P P':Prop}(h1:b=true→P)(h2:b=false→P'):if b=true then P else P':=by cases b<;>simp_all
theorem vO{b:Bool}{P P':Prop}(h1:b=false→P)(h2:b=true→P'):if (!b)=true then P else P':=by cases b<;>simp_all
theorem er{P P':Prop}(h:P):if (true:Bool)=true then P else P':=by simpa using h
theorem cJ{P P':Prop}(h:P'):if (false:Bool)=true then P else P':=by simpa using h
section
theorem Cx.weak{A2 GJ:Nat}(C:Cx gx aH A ae aE az L dp un)(h1:A2≤dp)(h2:GJ≤un):Cx gx aH A ae aE az L A2 GJ:=
 ⟨C.B,C.X,C.T,C.hA,C.hf,C.hk,C.hh,by have:=C.hd;exact TX h1 this,by have:=C.hu;exact TX h2 this⟩
theorem Cx.push{g:Heap}{L':Addr}(C:Cx gx aH A ae aE az L (dp+1) (un+3))(B':Below A gx.gh (az::aE) g)(X':(KF gx.gw.params).In g)(T':Top gx.gp gx.gl gx.gm gx.gg gx.gb g)(hf:ev.frame=some L')(hk:ev.scope.kind= .function):
  Cx gx A (A.deeper ev) g (az::aE) ev L' dp un:=
 ⟨B',X',T',by show A.frames.map (ev::·)=_;rw[C.hA];rfl,hf,hk,C.hh,by have:=C.hd;show A.depth+1+dp<_;exact OJ this,by have:=C.hu;show A.units+3+un<_;exact om1 this⟩
theorem St.to{h':Heap}{tk:Nat}{l':List (Str×Value)}(S:St ai ae L s l aa)(F':Fr ae L h' (dY l'))(N':News ae L h' ag)(D':(ag.map (·.1)).Nodup):St ai ae L {s with heap:=h',toks:=tk} l' ag:=
 ⟨F',N',D',by rw[S.R]⟩
theorem St.tick{tk:Nat}(S:St ai ae L s l aa):St ai ae L {s with toks:=tk} l aa:=⟨S.F,S.N,S.D,by rw[S.R]⟩
theorem St.nd{x:Addr}(S:St ai ae L s l aa)(lt:∀p∈aa,p.1<x):(((x,o)::aa).map (·.1)).Nodup:=
 List.nodup_cons.mpr ⟨fun hm=>by obtain⟨p,hp,e⟩:=List.mem_map.mp hm;exact absurd (lt p hp) (by rw[e];exact Nat.lt_irrefl _),S.D⟩
theorem St.lt(S:St ai ae L s l aa):∀p∈aa,p.1<s.heap.objs.size:=fun p hp=>Heap.lt_size (S.N p hp).1
theorem St.sub(S:St ai ae L s l aa)(hs:ag.Sublist aa):St ai ae L s l ag:=
 ⟨S.F,fun p hp=>S.N p (hs.subset hp),(hs.map _).nodup S.D,S.R⟩
theorem St.drop{x:Addr×Obj}(S:St ai ae L s l (x::aa)):St ai ae L s l aa:=S.sub (List.sublist_cons_self _ _)
theorem St.tup{x:Addr}{n:Nat}(S:St ai ae L s l aa)(hm:(x,({cls:= .type "tuple",data:= .seq ba n}:Obj))∈aa):IsTup s.heap x ba:=News.isTup S.N hm
theorem ul(S:St ai ae L s l aa)(hv:l.lookup x=some v)(h:Q v s)(hk:autoParam (aq.kind= .function) kr)(hl:autoParam ((envX name aq L a cd cl).kindOf x=some .local) kr)(hd:autoParam ((x==q "__debug__")=false) kr):
  wpAny M A (eval (.Name x aI) (envX name aq L a cd cl)) Q E s:=nameX_L S.F hv h hk hl hd
theorem ap(S:St ai ae L s l aa)(hv:l.lookup x=some v)(h:Q v s)(hq:autoParam ((aq.kind,aq.names.lookup x,x==q "__debug__")=(.function,some .local,false)) kr):wpAny M A (eval (.Name x aI) (envX name aq L a cd cl)) Q E s:=ul S hv h (hk:=t1 hq) (hl:=t1 (t2 hq)) (hd:=t2 (t2 hq))
theorem Gq(C:Cx gx aH A ae aE az L dp un)(S:St ai ae L s l aa)(hg:nsIn (KF gx.gw.params) mainGlobals x=some (some v))(h:Q v s)(hk:autoParam (aq.kind= .function) kr)(hl:autoParam ((envX name aq L a cd cl).kindOf x=some .globalImplicit) kr)(hd:autoParam ((x==q "__debug__")=false) kr):
  wpAny (model af gx.gw) A (eval (.Name x aI) (envX name aq L a cd cl)) Q E s:=nameX_K S.F C.X (topRead_of C.T) hg h hk hl hd
theorem xkw(C:Cx gx aH A ae aE az L dp un)(S:St ai ae L s l aa)(hg:nsIn (KF gx.gw.params) mainGlobals x=some (some v))(h:Q v s)(hq:autoParam ((aq.kind,aq.names.lookup x,x==q "__debug__")=(.function,some .globalImplicit,false)) kr):wpAny (model af gx.gw) A (eval (.Name x aI) (envX name aq L a cd cl)) Q E s:=Gq C S hg h (hk:=t1 hq) (hl:=t1 (t2 hq)) (hd:=t2 (t2 hq))
theorem O5(C:Cx gx aH A ae aE az L dp un)(S:St ai ae L s l aa)(hg:nsIn (KF gx.gw.params) mainGlobals x=some none)(hb:bootBuiltins x=some v)(hn:x≠q "__name__")(h:Q v s)(hk:autoParam (aq.kind= .function) kr)(hl:autoParam ((envX name aq L a cd cl).kindOf x=some .globalImplicit) kr)(hd:autoParam ((x==q "__debug__")=false) kr):
  wpAny (model af gx.gw) A (eval (.Name x aI) (envX name aq L a cd cl)) Q E s:=nameX_B S.F C.X (topRead_of C.T) hg hb hn h hk hl hd
theorem xkv(C:Cx gx aH A ae aE az L dp un)(S:St ai ae L s l aa)(hg:nsIn (KF gx.gw.params) mainGlobals x=some none)(hb:bootBuiltins x=some v)(hn:x≠q "__name__")(h:Q v s)(hq:autoParam ((aq.kind,aq.names.lookup x,x==q "__debug__")=(.function,some .globalImplicit,false)) kr):wpAny (model af gx.gw) A (eval (.Name x aI) (envX name aq L a cd cl)) Q E s:=O5 C S hg hb hn h (hk:=t1 hq) (hl:=t1 (t2 hq)) (hd:=t2 (t2 hq))
theorem xhw{c:Addr}(S:St ai ae L s l aa)(hc:cl.lookup x=some c)(hm:(c,o)∈aa)(ho:o.data= .cell (some v))(h:Q v s)(hk:autoParam (aq.kind= .function) kr)(hl:autoParam ((envX name aq L a cd cl).kindOf x=some .cell) kr)(hd:autoParam ((x==q "__debug__")=false) kr):
  wpAny M A (eval (.Name x aI) (envX name aq L a cd cl)) Q E s:=nameX_C S.N hc hm ho h hk hl hd
theorem jI{c:Addr}(S:St ai ae L s l aa)(hc:cl.lookup x=some c)(hm:(c,o)∈aa)(ho:o.data= .cell (some v))(h:Q v s)(hq:autoParam ((aq.kind,aq.names.lookup x,x==q "__debug__")=(.function,some .cell,false)) kr):wpAny M A (eval (.Name x aI) (envX name aq L a cd cl)) Q E s:=xhw S hc hm ho h (hk:=t1 hq) (hl:=t1 (t2 hq)) (hd:=t2 (t2 hq))
theorem jo{Q:Unit→Shared→Prop}(S:St ai ae L s l aa)(h:∀s',St ai ae L s' ((x,v)::l) aa→Q () s')(hk:autoParam (aq.kind= .function) kr)(hl:autoParam ((envX name aq L a cd cl).kindOf x=some .local) kr):
  wpAny M A (storeName (envX name aq L a cd cl) x v) Q E s:=
 storeX_L S.F S.N (fun h' F' N'=>h _ (S.to (BL x v l▸F') N' S.D)) hk hl
theorem aW{Q:Unit→Shared→Prop}(S:St ai ae L s l aa)(h:∀s',St ai ae L s' ((x,v)::l) aa→Q () s')(hq:autoParam ((aq.kind,aq.names.lookup x)=(.function,some .local)) kr):wpAny M A (storeName (envX name aq L a cd cl) x v) Q E s:=jo S h (hk:=t1 hq) (hl:=t2 hq)
theorem aX{pos':Pos}{e:Expr}{Q:Flow→Shared→Prop}(h:wpAny M A (eval e ev) (fun v aL=>wpAny M A (storeName ev x v) (fun zz=>Q .next) E aL) E s)(IH:autoParam (swapsWith e (some (.Name x pos')) aI.line ev=pure false) rf):wpAny M A (exec (.Assign [.Name x pos'] e aI) ev) Q E s:=wpAny_Assign_Name h IH
theorem bE{k:Nat}(S:St ai ae L s l aa)(h:∀t s',St ai ae L s' l aa→Q (.str x t) s'):
  wpAny M A (eval (.Constant (.str x) k aI) ev) Q E s:=Calls.Constant_str (h _ _ S.tick)
theorem bf{x:Int}{k:Nat}(S:St ai ae L s l aa)(h:∀t s',St ai ae L s' l aa→Q (.int x t) s'):
  wpAny M A (eval (.Constant (.int x) k aI) ev) Q E s:=wpAny_Constant_int (h _ _ S.tick)
theorem dm{vs:List Value}(S:St ai ae L s l aa)(hz:vs.length≤sizeLine)(h:∀x s',St ai ae L s' l ((x,listOf vs.toArray 0)::aa)→(∀p∈aa,p.1<x)→Q (.ref x) s'):
  wpAny M A (newList vs) Q E s:=newList_K S.F S.N (fun x h' F' N' lt=>h x _ (S.to F' N' (S.nd lt)) lt) hz
theorem ea{vs:List Value}(S:St ai ae L s l aa)(hz:vs.length≤sizeLine)(h:∀x s',St ai ae L s' l ((x,({cls:= .type "tuple",data:= .seq vs.toArray 0}:Obj))::aa)→(∀p∈aa,p.1<x)→Q (.ref x) s'):
  wpAny M A (newTuple vs) Q E s:=newTuple_N S.F S.N (fun h' F' N'=>h _ _ (S.to F' N' (S.nd S.lt)) S.lt) hz
theorem xS1{it:Addr×Obj}{X:List (Addr×Obj)}{G:Prop}(e:ag=X)(S:St ai ae L s l (it::ag))(k:St ai ae L s l (it::X)→G):G:=k (e▸S)
theorem Wq{X:List (Addr×Obj)}{G:Prop}(e:ag=X)(S:St ai ae L s l ag)(k:St ai ae L s l X→G):G:=k (e▸S)
theorem aT{g:Heap}{L':Addr}{l':List (Str×Value)}{s':Shared}(S':St ai g L' s' l' ag)(k:St ai ae L s' l ag→R (.ok (.ret v)) s'):LeaveK ae L (dY l) g R v s':=leaveK_ S'.F S'.N fun F N=>k ⟨F,N,S'.D,S'.R⟩
theorem ec{st:Stmt}{aJ:List Stmt}{Q:Flow→Shared→Prop}(h:let K:Flow→Shared→Prop:=kE M A az aJ Q E;wpAny M A (exec st az) K E s):wpAny M A (execs (st::aJ) az) Q E s:=wpAny_execs_cons h
theorem bQ{px:Pos}{Q:List Value→Shared→Prop}(S:St ai ae L s l aa)(hv:l.lookup x=some v)(h:wpAny M A (spliced (backTo aI (starEach aJ (envX name aq L a cd cl)))) (fun vs bb=>Q (v::vs) bb) E s)(hq:autoParam ((aq.kind,aq.names.lookup x,x==q "__debug__")=(.function,some .local,false)) kr):wpAny M A (spliced (backTo aI (starEach (.Name x px::aJ) (envX name aq L a cd cl)))) Q E s:=spliced_more (ap S hv h hq)
theorem aU{px:Pos}{Q:List Value→Shared→Prop}(S:St ai ae L s l aa)(hv:l.lookup x=some v)(h:Q [v] s)(hq:autoParam ((aq.kind,aq.names.lookup x,x==q "__debug__")=(.function,some .local,false)) kr):wpAny M A (spliced (backTo aI (starEach [.Name x px] (envX name aq L a cd cl)))) Q E s:=bQ S hv (spliced_none h) hq
theorem be{k:Nat}{px:Pos}{Q:List Value→Shared→Prop}(S:St ai ae L s l aa)(h:∀t s',St ai ae L s' l aa→wpAny M A (spliced (backTo aI (starEach aJ ev))) (fun vs bb=>Q (.str x t::vs) bb) E s'):wpAny M A (spliced (backTo aI (starEach (.Constant (.str x) k px::aJ) ev))) Q E s:=spliced_more (bE S h)
theorem cz{k:Nat}{px:Pos}{Q:List Value→Shared→Prop}(S:St ai ae L s l aa)(h:∀t s',St ai ae L s' l aa→Q [.str x t] s'):wpAny M A (spliced (backTo aI (starEach [.Constant (.str x) k px] ev))) Q E s:=be S fun t s' S'=>spliced_none (h t s' S')
theorem br{l r:Expr}{op:CmpOp}{orelse:List Stmt}{pos':Pos}{Q:Flow→Shared→Prop}(h:wpAny M A (eval l az) (fun a aL=>wpAny M A (eval r az) (fun b bb=>wpAny M A (compareOp op a b) (fun c bx=>wpAny M A (truthy c) (fun b bb=>if b then wpAny M A (execs bL az) Q E bb else wpAny M A (execs orelse az) Q E bb) E bx) E bb) E aL) E s)(hm:autoParam (behindInMarks op r=false) wr):wpAny M A (exec (.If (.Compare l [op] [r] aI) bL orelse pos') az) Q E s:=wpAny_If (wpAny_isTrue_Compare1 h hm)
theorem bV{b:Bool}{P P':Shared→Prop}(h:b=true→P s)(h2:b=false→P' s):wpAny M A (truthy (.bool b)) (fun c s'=>if c=true then P s' else P' s') E s:=wpAny_truthy_bool (mY h h2)
theorem ei{P P':Shared→Prop}(h:P' s):wpAny M A (truthy (.bool false)) (fun c s'=>if c=true then P s' else P' s') E s:=wpAny_truthy_bool (cJ h)
theorem gZ{P P':Shared→Prop}(h:P s):wpAny M A (truthy (.bool true)) (fun c s'=>if c=true then P s' else P' s') E s:=wpAny_truthy_bool (er h)
theorem bZ{t:Tok}{k:Nat}{px:Pos}{Q:Bool→Shared→Prop}(S:St ai ae L s l aa)(h:∀(t:Tok) s',St ai ae L s' l aa→Q (y==x) s'):wpAny (model af w) A (eval (.Constant (.str x) k px) ev) (fun b bb=>wpAny (model af w) A (compareOp .Eq (.str y t) b) (fun c bx=>wpAny (model af w) A (truthy c) Q E bx) E bb) E s:=bE S fun t s' S'=>PyProof.Rows.eq_str (wpAny_truthy_bool (h t s' S'))
theorem cF{F:List Value→List Value}(S:St ai ae L s l aa)(hz:(F []).length≤sizeLine)(h:∀x s',St ai ae L s' l ((x,listOf (F []).toArray 0)::aa)→(∀p∈aa,p.1<x)→Q (.ref x) s'):wpAny M A (spliced (backTo aI (starEach [] az))) (fun vs aL=>wpAny M A (newList (F vs)) Q E aL) E s:=spliced_none (dm S hz h)
theorem dG{G:Prop}(S:St ai ae L s l aa)(h:let l1:=l;let e9:=aa;St ai ae L s l1 e9→G):G:=h S
theorem lq{α:Type}{x:Sem α}{Q:α→Shared→Prop}(h:let K:=Q;wpAny M A x K E s):wpAny M A x Q E s:=h
theorem bo{α:Type}{x:Sem α}{Q:α→Shared→Prop}(h:let K:=Q;let E':=E;wpAny M A x K E' s):wpAny M A x Q E s:=h
end
def bG(od:Obj)(al:List (Str×Value)):Prop:=∃es n,od=dictOf es n∧(∀nm,getL nm es=some (al.lookup nm))∧es.length≤al.length
theorem Go(nm:Str)(h:Int)(k v:Value):∀es,(putL nm h k v es).length≤es.length+1
 |[]=>by simp[putL]
 |e::r=>by
  have:=Go nm h k v r
  unfold putL
  split<;>simp<;>exact om3 this
set_option tactic.hygienic true in
theorem UR (nm:Str) (h:Int) (k v:Value):∀es,es.any (·.key.isStr nm)=true→(putL nm h k v es).length=es.length
 |[],q=>by simp at q
 |e::r,q=>by
  unfold putL
  split
  ·simp
  ·rename_i g
   rw[List.any_cons,Bool.eq_false_iff.mpr g,Bool.false_or] at q
   simp[UR nm h k v r q]
theorem xdX{a b:Str}(h:v.isStr a=true)(H3:b≠a):v.isStr b=false:=by
 cases v<;>simp[Value.isStr] at h ⊢
 rw[h];exact fun e=>H3 e.symm
theorem xho(nm:Str)(h:Int)(tk:Tok)(v:Value):∀r,∃e,(putL nm h (.str nm tk) v r).find? (·.key.isStr nm)=some e∧e.val=v:=by
 intro r
 induction r with
 |nil=>exact⟨⟨h,.str nm tk,v⟩,by simp[putL,Value.isStr],rfl⟩
 |cons e r ih=>
  unfold putL
  by_cases g:e.key.isStr nm=true
  ·rw[if_pos g];exact⟨⟨e.hash,e.key,v⟩,by simp[g],rfl⟩
  ·rw[if_neg g]
   have g:=Bool.eq_false_iff.mpr g
   simp only[List.find?_cons,g];exact ih
theorem RV(la:Str)(h:Int)(tk:Tok)(v:Value)(nm:Str)(es:List DictEntry)(q:(getL nm es).isSome=true):getL nm (putL la h (.str la tk) v es)=if nm=la then some (some v) else getL nm es:=by
 by_cases e:nm=la
 ·subst e
  rw[if_pos rfl]
  refine aS (xho nm h tk v es) fun e z1=>ay z1 fun he hv=>?_
  clear z1
  unfold getL
  rw[he];subst hv;rfl
 ·rw[if_neg e]
  have look:∀es,(es.find? (fun x=>x.key.isStr nm)=none→True)∧(putL la h (.str la tk) v es).find? (·.key.isStr nm)=es.find? (·.key.isStr nm)∧(putL la h (.str la tk) v es).any (·.refKey)=es.any (·.refKey):=by
   intro es
   refine⟨fun zz=>trivial,?_⟩
   induction es with
   |nil=>
    have:(la==nm)=false:=beq_false_of_ne fun x=>e x.symm
    simp[putL,Value.isStr,this,DictEntry.refKey]
   |cons en r ih=>
    unfold putL
    by_cases g:en.key.isStr la=true
    ·rw[if_pos g]
     have:=xdX g e
     simp[this,DictEntry.refKey]
    ·rw[if_neg g]
     simp only[List.find?_cons,List.any_cons,ih.1,ih.2]
     exact⟨trivial,trivial⟩
  unfold getL
  rw[(look _).2.1,(look _).2.2]
theorem bG.look{od:Obj}(H:bG od al):∃es n,od=dictOf es n∧∀nm,getL nm es=some (al.lookup nm):=by
 obtain⟨es,n,a,b,_⟩:=H
 exact⟨es,n,a,b⟩
theorem bG.nil:bG (dictOf [] 0) []:=⟨[],0,rfl,fun zz=>rfl,Nat.le_refl _⟩
theorem bG.add{es:List DictEntry}{n:Nat}(H:(∀nm,getL nm es=some (al.lookup nm))∧es.length≤al.length)(nm:Str)(h:Int)(tk:Tok)(v:Value):
  bG (dictOf (putL nm h (.str nm tk) v es) (putN nm es n)) ((nm,v)::al):=by
 refine aN (aR rfl (fun k=>?_) ?_)
 ·rw[RV nm h tk v k es (by rw[H.1];rfl),List.lookup_cons]
  by_cases e:k=nm
  ·subst e;simp
  ·rw[if_neg e,beq_false_of_ne e];exact H.1 k
 ·have:=Go nm h (.str nm tk) v es
  simp;omega
theorem SP{pre post:List (Str×Value)}(hp:pre.lookup nm=none)(k:Str):(pre++(nm,v)::post).lookup k=if k=nm then some v else (pre++(nm,v0)::post).lookup k:=by
 induction pre with
 |nil=>
  rw[List.nil_append,List.nil_append,List.lookup_cons,List.lookup_cons]
  by_cases e:k=nm
  ·subst e;simp
  ·rw[beq_false_of_ne e,if_neg e]
 |cons ab pre ih=>
  obtain⟨a,b⟩:=ab
  rw[List.cons_append,List.cons_append,List.lookup_cons,List.lookup_cons]
  rw[List.lookup_cons] at hp
  have eD:(nm==a)=false:=by cases q:nm==a<;>simp[q] at hp ⊢
  rw[eD] at hp
  by_cases e:k=nm
  ·subst e;rw[eD];simp only;rw[ih hp];simp
  ·cases q:k==a
   ·simp only;rw[ih hp,if_neg e]
   ·simp only;rw[if_neg e]
theorem bG.put{es:List DictEntry}{n:Nat}{pre post:List (Str×Value)}(H:(∀k,getL k es=some ((pre++(nm,v0)::post).lookup k))∧es.length≤(pre++(nm,v0)::post).length)(hp:pre.lookup nm=none)(h:Int)(tk:Tok)(v:Value):
  bG (dictOf (putL nm h (.str nm tk) v es) (putN nm es n)) (pre++(nm,v)::post):=by
 refine aN (aR rfl (fun k=>?_) ?_)
 ·rw[RV nm h tk v k es (by rw[H.1];rfl),SP hp]
  by_cases e:k=nm
  ·rw[if_pos e,if_pos e]
  ·rw[if_neg e,if_neg e];exact H.1 k
 ·have hh:es.any (·.key.isStr nm)=true:=by
   have:=H.1 nm
   rw[SP (v0:=v0) hp,if_pos rfl] at this
   unfold getL at this
   cases q:es.find? (·.key.isStr nm) with
   |some e=>exact List.any_eq_true.mpr ⟨e,List.mem_of_find?_eq_some q,by simpa using List.find?_some q⟩
   |none=>rw[q] at this;simp only at this;split at this<;>cases this
  rw[UR nm h _ v es hh]
  have:=H.2
  simpa using this
noncomputable def nM(K:Frag)(C:Addr)(nm:Str):Bool:=plainGet K C nm&&hasDictIn K C&&(match findIn K (.ref C) nm with|some a=>noGet K a|none=>false)
noncomputable def uB(K:Frag)(C:Addr)(nm:Str):Bool:=findIn K (.ref C) "__setattr__"==some (some (.builtin "object.__setattr__"))&&plainOver K C&&takerIn K C nm==some none&&hasDictIn K C
noncomputable def oJ(K:Frag)(C:Addr)(nm:Str)(f:Addr):Bool:=plainGet K C nm&&findIn K (.ref C) nm==some (some (.ref f))&&isFn K (.ref f)&&keepIn K (.ref f)
noncomputable def gk(K:Frag)(C:Addr)(f:Addr):Bool:=makesIn K C&&findIn K (.ref C) "__init__"==some (some (.ref f))&&isFn K (.ref f)&&keepIn K (.ref C)
noncomputable def gP(K:Frag)(C:Addr):Option (List Value×Addr×Bool):=match K.lookup C with|some ⟨_,_,.cls cd,_⟩=>some (cd.mro,cd.ns,cd.hasDict)|_=>none
set_option tactic.hygienic true in
theorem Hi {K:Frag} {C ns:Addr} {b:Bool} {r:Option Value} (h:gP K C=some ([.ref C,.type "object"],ns,b)) (hn:nsIn K ns nm=some r) (ho:r=none→fastBuiltinOwn "object" nm=none):findIn K (.ref C) nm=some r:=by
 unfold gP at h
 unfold findIn
 dsimp only
 split at h
 ·rename_i a1 a2 cd a3 hl
  rw[hl]
  dsimp only
  obtain⟨h1,h2,h3⟩:cd.mro=_∧cd.ns=_∧cd.hasDict=_:=by simpa using h
  have e:ownIn K nm (.ref C)=some r:=by
   unfold ownIn;dsimp only;rw[hl];dsimp only;rw[h2];exact hn
  rw[h1]
  unfold alongIn
  rw[e]
  cases r with
  |some v=>rfl
  |none=>
   dsimp only
   unfold alongIn ownIn
   dsimp only
   rw[ho rfl]
   rfl
 ·cases h
set_option tactic.hygienic true in
theorem Re {K:Frag} {C ns:Addr} {mro:List Value} (h:gP K C=some (mro,ns,true)):hasDictIn K C=true:=by
 unfold gP at h
 unfold hasDictIn clsIn
 split at h
 ·rename_i a1 a2 cd a3 hl
  rw[hl]
  obtain⟨h1,h2,h3⟩:cd.mro=_∧cd.ns=_∧cd.hasDict=_:=by simpa using h
  simpa using h3
 ·cases h
theorem fB{K:Frag}{C ns:Addr}(h:gP K C=some ([.ref C,.type "object"],ns,true))(hp:plainGet K C (q "")=true)(hn:nsIn K ns nm=some none)(ho:fastBuiltinOwn "object" nm=none):nM K C nm=true:=by
 unfold nM
 rw[Re h,Hi h hn fun zz=>ho]
 show(plainGet K C (q "")&&true&&_)=true
 rw[hp];rfl
theorem bU{K:Frag}{C ns:Addr}(h:gP K C=some ([.ref C,.type "object"],ns,true))(hs:(findIn K (.ref C) "__setattr__"==some (some (.builtin "object.__setattr__"))&&plainOver K C)=true)(hn:nsIn K ns nm=some none)(ho:fastBuiltinOwn "object" nm=none):uB K C nm=true:=by
 unfold uB takerIn
 rw[Re h,Hi h hn fun zz=>ho,hs];rfl
theorem ij{K:Frag}{C ns f:Addr}(h:gP K C=some ([.ref C,.type "object"],ns,true))(hp:plainGet K C (q "")=true)(hn:nsIn K ns nm=some (some (.ref f))∧(isFn K (.ref f)&&keepIn K (.ref f))=true):oJ K C nm f=true:=by
 unfold oJ
 rw[Hi h hn.1 fun e=>by cases e]
 show(plainGet K C (q "")&&_&&isFn K (.ref f)&&keepIn K (.ref f))=true
 rw[hp,Bool.and_assoc,hn.2];simp
def Inst(aa:List (Addr×Obj))(x K:Addr)(al:List (Str×Value)):Prop:=∃dx od,(x,instObj K dx)∈aa∧(dx,od)∈aa∧bG od al
theorem Inst.mono{x K:Addr}(I:Inst aa x K al)(h:∀p∈aa,p∈ag):Inst ag x K al:=by
 obtain⟨dx,od,a,b,c⟩:=I
 exact⟨dx,od,h _ a,h _ b,c⟩
theorem Inst.up{x K:Addr}{p:Addr×Obj}(I:Inst aa x K al):Inst (p::aa) x K al:=I.mono fun zz h=> .tail _ h
inductive Up(d:Addr)(o o':Obj):List (Addr×Obj)→List (Addr×Obj)→Prop
 |head {r}:Up d o o' ((d,o)::r) ((d,o')::r)
 |tail {p r r'}:Up d o o' r r'→Up d o o' (p::r) (p::r')
theorem Up.keys{d:Addr}{o':Obj}{l l':List (Addr×Obj)}(u:Up d o o' l l'):l'.map (·.1)=l.map (·.1):=by
 induction u with
 |head=>rfl
 |tail u ih=>exact congrArg (_::·) ih
theorem Up.mem{d:Addr}{o':Obj}{l l':List (Addr×Obj)}(u:Up d o o' l l'):(d,o)∈l:=by
 induction u with
 |head=>exact .head _
 |tail u ih=>exact .tail _ ih
theorem ka{p:Addr×Obj}{l:List (Addr×Obj)}(h:p∈l):p.1∈l.map (·.1):=List.mem_map_of_mem (f:=(·.1)) h
theorem Up.iK{d:Addr}{o':Obj}{l l':List (Addr×Obj)}(u:Up d o o' l l')(h:(l.map (·.1)).Nodup):Upd d o o' l l':=by
 induction u with
 |head=>exact .head fun p hp e=>(List.nodup_cons.mp h).1 (by have z:=ka hp;rw[e] at z;exact z)
 |tail u ih=>exact .tail (fun e=>(List.nodup_cons.mp h).1 (by show _∈_;dsimp only;rw[e];exact ka u.mem)) (ih (List.nodup_cons.mp h).2)
theorem Up.OB{d:Addr}{o':Obj}{l:List (Addr×Obj)}(h:(d,o)∈l):∃l',Up d o o' l l'∧(d,o')∈l'∧∀p∈l,p.1≠d→p∈l':=by
 induction h with
 |head r=>exact⟨_,.head,.head _,fun q hq hn=>by cases hq;exact absurd rfl hn;exact .tail _ ‹_›⟩
 |tail p h ih=>
  refine aS ih fun l' z1=>aO z1 fun u a b=>?_
  clear ih z1
  exact⟨p::l',.tail u,.tail _ a,fun q hq hn=>by cases hq;exact .head _;exact .tail _ (b q ‹_› hn)⟩
section
theorem gU{x K:Addr}{ex:Bool}(C:Cx gx aH A ae aE az L dp un)(S:St ai ae L s l aa)(g:nM (KF gx.gw.params) K nm=true)(I:Inst aa x K al)(hl:al.lookup nm=some v)(hv:handedIn v=true)(h:∀s',St ai ae L s' l aa→Q v s'):wpAny (model af gx.gw) A (getAttr (.ref x) nm ex) Q E s:=by
 refine aP I fun dx od z1=>aO z1 fun m1 m2 hA=>?_
 clear I z1
 refine aP hA.look fun es n z1=>ay z1 fun z2 hg=>?_
 clear z1
 subst z2
 unfold nM at g
 obtain⟨g,g3⟩:=Bool.and_eq_true_iff.mp g
 obtain⟨g1,g2⟩:=Bool.and_eq_true_iff.mp g
 cases hf:findIn (KF gx.gw.params) (.ref K) nm with
 |none=>rw[hf] at g3;cases g3
 |some a=>
  rw[hf] at g3
  exact get_own S.F C.X (InstAt.of_news S.N m1 m2) g1 g2 hf g3 (by rw[hg,hl]) hv (h _ S.tick)
theorem U1{x K f:Addr}{pl:Sem Bool}{Q:Value×List Value→Shared→Prop}(C:Cx gx aH A ae aE az L dp un)(S:St ai ae L s l aa)(g:oJ (KF gx.gw.params) K nm f=true)(I:Inst aa x K al)(hl:al.lookup nm=none)(h:Q (.ref f,[.ref x]) s):wpAny (model af gx.gw) A (getMethod (.ref x) nm pl) Q E s:=by
 refine aP I fun dx od z1=>aO z1 fun m1 m2 hA=>?_
 clear I z1
 refine aP hA.look fun es n z1=>ay z1 fun z2 hg=>?_
 clear z1
 subst z2
 unfold oJ at g
 obtain⟨g,g4⟩:=Bool.and_eq_true_iff.mp g
 obtain⟨g,g3⟩:=Bool.and_eq_true_iff.mp g
 obtain⟨g1,g2⟩:=Bool.and_eq_true_iff.mp g
 exact method_inst S.F C.X (InstAt.of_news S.N m1 m2) g1 (beq_iff_eq.mp g2) g3 (by rw[hg,hl]) h
theorem SX{K:Frag}{C:Addr}{f:Addr}(g:oJ K C nm f=true):keepIn K (.ref f)=true:=(Bool.and_eq_true_iff.mp g).2
theorem O8{np:Pos}{f:Addr}{e:Expr}(C:Cx gx aH A ae aE az L dp un)(S:St ai ae L s l aa)(hg:nsIn (KF gx.gw.params) mainGlobals x=some (some (.ref f))∧keepIn (KF gx.gw.params) (.ref f)=true)(h:wpAny (model af gx.gw) A (spliced (backTo aI (starEach (e::aJ) (envX name aq L a cd cl)))) (fun vs aL=>(KF gx.gw.params).In aL.heap∧wpAny (model af gx.gw) A (call (.ref f) vs) Q E aL) E s)(he:autoParam (starEach (e::aJ) (envX name aq L a cd cl)=(false,eval e (envX name aq L a cd cl))::starEach aJ (envX name aq L a cd cl)) rf)(eS:autoParam ((backTo aI (starEach aJ (envX name aq L a cd cl))).any (·.1)=false) rf)(hk:autoParam (aq.kind= .function) kr)(hl:autoParam ((envX name aq L a cd cl).kindOf x=some .globalImplicit) kr)(hd:autoParam ((x==q "__debug__")=false) kr):
  wpAny (model af gx.gw) A (eval (.Call (.Name x np) (e::aJ) [] aI) (envX name aq L a cd cl)) Q E s:=
 wpAny_Call_ofName (Gq C S hg.1 (callWith_K C.X hg.2 h he eS) (hk:=hk) (hl:=hl) (hd:=hd))
theorem aY{np:Pos}{f:Addr}{e:Expr}(C:Cx gx aH A ae aE az L dp un)(S:St ai ae L s l aa)(hg:nsIn (KF gx.gw.params) mainGlobals x=some (some (.ref f))∧keepIn (KF gx.gw.params) (.ref f)=true)(h:wpAny (model af gx.gw) A (spliced (backTo aI (starEach (e::aJ) (envX name aq L a cd cl)))) (fun vs aL=>(KF gx.gw.params).In aL.heap∧wpAny (model af gx.gw) A (call (.ref f) vs) Q E aL) E s)(he:autoParam (starEach (e::aJ) (envX name aq L a cd cl)=(false,eval e (envX name aq L a cd cl))::starEach aJ (envX name aq L a cd cl)) rf)(eS:autoParam ((backTo aI (starEach aJ (envX name aq L a cd cl))).any (·.1)=false) rf)(hq:autoParam ((aq.kind,aq.names.lookup x,x==q "__debug__")=(.function,some .globalImplicit,false)) kr):wpAny (model af gx.gw) A (eval (.Call (.Name x np) (e::aJ) [] aI) (envX name aq L a cd cl)) Q E s:=O8 C S hg h he eS (hk:=t1 hq) (hl:=t1 (t2 hq)) (hd:=t2 (t2 hq))
theorem xhr{np:Pos}{f:Addr}(C:Cx gx aH A ae aE az L dp un)(S:St ai ae L s l aa)(hg:nsIn (KF gx.gw.params) mainGlobals x=some (some (.ref f))∧keepIn (KF gx.gw.params) (.ref f)=true)(h:codeAny (model af gx.gw) A (.call (.ref f) ⟨[],[]⟩) (kC Q E) s)(hk:autoParam (aq.kind= .function) kr)(hl:autoParam ((envX name aq L a cd cl).kindOf x=some .globalImplicit) kr)(hd:autoParam ((x==q "__debug__")=false) kr):
  wpAny (model af gx.gw) A (eval (.Call (.Name x np) [] [] aI) (envX name aq L a cd cl)) Q E s:=
 wpAny_Call_ofName (Gq C S hg.1 (callWith_K0 (C.X.keeps S.F.keep) hg.2 (wpAny_call h)) (hk:=hk) (hl:=hl) (hd:=hd))
theorem O6{np:Pos}{f:Addr}(C:Cx gx aH A ae aE az L dp un)(S:St ai ae L s l aa)(hg:nsIn (KF gx.gw.params) mainGlobals x=some (some (.ref f))∧keepIn (KF gx.gw.params) (.ref f)=true)(h:codeAny (model af gx.gw) A (.call (.ref f) ⟨[],[]⟩) (kC Q E) s)(hq:autoParam ((aq.kind,aq.names.lookup x,x==q "__debug__")=(.function,some .globalImplicit,false)) kr):wpAny (model af gx.gw) A (eval (.Call (.Name x np) [] [] aI) (envX name aq L a cd cl)) Q E s:=xhr C S hg h (hk:=t1 hq) (hl:=t1 (t2 hq)) (hd:=t2 (t2 hq))
theorem fw{x K f:Addr}{pl:Sem Bool}{e:Expr}(C:Cx gx aH A ae aE az L dp un)(S:St ai ae L s l aa)(g:oJ (KF gx.gw.params) K nm f=true)(I:Inst aa x K al)(hl:al.lookup nm=none)(h:wpAny (model af gx.gw) A (spliced (backTo aI (starEach (e::aJ) ev))) (fun vs aL=>(KF gx.gw.params).In aL.heap∧wpAny (model af gx.gw) A (call (.ref f) (.ref x::vs)) Q E aL) E s)(he:autoParam (starEach (e::aJ) ev=(false,eval e ev)::starEach aJ ev) rf)(eS:autoParam ((backTo aI (starEach aJ ev)).any (·.1)=false) rf):
  wpAny (model af gx.gw) A (getMethod (.ref x) nm pl) (fun fx bb=>wpAny (model af gx.gw) A (callWith aI fx.1 fx.2 (backTo aI (starEach (e::aJ) ev)) (backToKw aI (keywordEach [] ev))) Q E bb) E s:=
 U1 C S g I hl (callWith_K C.X (SX g) h he eS)
theorem Gw{x K f:Addr}{pl:Sem Bool}(C:Cx gx aH A ae aE az L dp un)(S:St ai ae L s l aa)(g:oJ (KF gx.gw.params) K nm f=true)(I:Inst aa x K al)(hl:al.lookup nm=none)(h:codeAny (model af gx.gw) A (.call (.ref f) ⟨[.ref x],[]⟩) (kC Q E) s):
  wpAny (model af gx.gw) A (getMethod (.ref x) nm pl) (fun fx bb=>wpAny (model af gx.gw) A (callWith aI fx.1 fx.2 (backTo aI (starEach [] ev)) (backToKw aI (keywordEach [] ev))) Q E bb) E s:=
 U1 C S g I hl (callWith_K0 (C.X.keeps S.F.keep) (SX g) (wpAny_call h))
theorem bh{f:Value}{vs:List Value}(C:Cx gx aH A ae aE az L dp un)(S:St ai ae L s l aa)(h:codeAny (model af gx.gw) A (.call f ⟨vs,[]⟩) (kC Q E) s):(KF gx.gw.params).In s.heap∧wpAny (model af gx.gw) A (call f vs) Q E s:=
 ⟨C.X.keeps S.F.keep,wpAny_call h⟩
theorem a9{px:Pos}{y K:Addr}(C:Cx gx aH A ae aE az L dp un)(S:St ai ae L s l aa)(hx:l.lookup x=some (.ref y))(g:nM (KF gx.gw.params) K nm=true)(I:Inst aa y K al)(hl:al.lookup nm=some v)(hv:handedIn v=true)(h:∀s',St ai ae L s' l aa→Q v s')(hq:autoParam ((aq.kind,aq.names.lookup x,x==q "__debug__")=(.function,some .local,false)) kr):wpAny (model af gx.gw) A (eval (.Attribute (.Name x px) nm aI) (envX name aq L a cd cl)) Q E s:=Attribute_Name_ (ap S hx (gU C S g I hl hv h) hq)
theorem dy{f:Value}{F:List Value→List Value}(C:Cx gx aH A ae aE az L dp un)(S:St ai ae L s l aa)(h:codeAny (model af gx.gw) A (.call f ⟨F [],[]⟩) (kC Q E) s):wpAny (model af gx.gw) A (spliced (backTo aI (starEach [] ev))) (fun vs s'=>(KF gx.gw.params).In s'.heap∧wpAny (model af gx.gw) A (call f (F vs)) Q E s') E s:=spliced_none (bh C S h)
end
theorem mH{α:Type}{p:α}{l:List α}:p∈p::l:=List.Mem.head _
theorem mT{α:Type}{p x:α}{l:List α}(h:p∈l):p∈x::l:=List.Mem.tail _ h
theorem bc{α:Type}{p x0 x1:α}{l:List α}(h:p∈l):p∈x0::x1::l:=mT (mT h)
theorem b5{α:Type}{p x0 x1 x2:α}{l:List α}(h:p∈l):p∈x0::x1::x2::l:=mT (bc h)
theorem ch{α:Type}{p x0 x1 x2 x3:α}{l:List α}(h:p∈l):p∈x0::x1::x2::x3::l:=mT (b5 h)
theorem eg{α:Type}{p x0 x1 x2 x3 x4:α}{l:List α}(h:p∈l):p∈x0::x1::x2::x3::x4::l:=mT (ch h)
theorem BM{α:Type}{p x0 x1 x2 x3 x4 x5:α}{l:List α}(h:p∈l):p∈x0::x1::x2::x3::x4::x5::l:=mT (eg h)
theorem dK{α:Type}{p x0 x1 x2 x3 x4 x5 x6:α}{l:List α}(h:p∈l):p∈x0::x1::x2::x3::x4::x5::x6::l:=mT (BM h)
section
theorem St.top{x:Addr}{o':Obj}{h':Heap}(S:St ai ae L s l ((x,o)::aa))(hs:Heap.SameBut x s.heap h')(ho:h'.get? x=some o'):St ai ae L {s with heap:=h'} l ((x,o')::aa):=by
 have hm:=S.N (x,o) (.head _)
 have nd:=S.D
 rw[List.map_cons,List.nodup_cons] at nd
 refine⟨S.F.change hs hm.2.1 hm.2.2,news_set (pre:=[]) S.N (fun zz h=>nomatch h) (fun p hp e=>nd.1 (by have z:=ka hp;rw[e] at z;exact z)) hs ho,?_,by rw[S.R]⟩
 rw[List.map_cons];exact List.nodup_cons.mpr nd
theorem St.uH{x:Addr}{h':Heap}(S:St ai ae L s l ((x,o)::aa))(hs:Heap.ExtBut x s.heap h'):St ai ae L {s with heap:=h'} l aa:=by
 have hm:=S.N (x,o) (.head _)
 have nd:=S.D
 rw[List.map_cons,List.nodup_cons] at nd
 have nx:∀b o',ae.get? b=some o'→b≠x:=fun b o' e q=>by rw[q,hm.2.2] at e;cases e
 refine⟨⟨?_,fun b o' e=>hs b o' (nx b o' e) (S.F.keep b o' e),S.F.above⟩,fun p hp=>?_,nd.2,by rw[S.R]⟩
 ·refine cQ S.F.ns fun oL es ep z1=>ay z1 fun hL r=>?_
  clear z1
  exact eK (a:=oL) (b:=es) (c:=ep) (bC (hs _ _ (Ne.symm hm.2.1) hL) r)
 ·have z:=S.N p (.tail _ hp)
  exact⟨hs _ _ (fun e=>nd.1 (by have z:=ka hp;rw[e] at z;exact z)) z.1,z.2⟩
theorem St.uniq{x:Addr}{o':Obj}(S:St ai ae L s l aa)(h1:(x,o)∈aa)(h2:(x,o')∈aa):o=o':=by
 have a:=(S.N _ h1).1
 have b:=(S.N _ h2).1
 exact Option.some.inj (a.symm.trans b)
theorem St.lst{x:Addr}{vs:Array Value}{n:Nat}(S:St ai ae L s l aa)(hm:(x,listOf vs n)∈aa):s.heap.IsList x vs:=⟨_,(S.N _ hm).1,rfl,_,rfl⟩
theorem xhp{t b:Addr}{vs ws:List Value}(S:St ai ae L s l aa)(ht:IsTup s.heap t vs.toArray)(hb:IsTup s.heap b ws.toArray)(h0:vs≠[])(h1:ws≠[])(hz:vs.length+ws.length≤sizeLine)(h:∀x s',St ai ae L s' l ((x,({cls:= .type "tuple",data:= .seq (vs++ws).toArray 0}:Obj))::aa)→(∀p∈aa,p.1<x)→Q (.ref x) s'):wpAny (model af w) A (binaryOp .Add (.ref t) (.ref b)) Q E s:=
 add_tuples S.F S.N ht hb (fun e=>absurd e h0) (fun zz e=>absurd e h1) (fun zz zz h' F' N'=>h _ _ (S.to F' N' (S.nd S.lt)) S.lt) hz
theorem uh{px:Pos}{iter:Expr}{Q:Flow→Shared→Prop}(h:wpAny M A (eval iter (envX name aq L a cd cl)) (fun x' aL=>wpAny M A (pyIter x') (fun it bb=>
      codeAny M A (.forLoop (.Name x px) it bL [] (envX name aq L a cd cl)) (kB M A (envX name aq L a cd cl) Q E) bb) E aL) E s)(hs:autoParam (∀x,foldedSetIterable iter (envX name aq L a cd cl) x=pure x) ir):wpAny M A (exec (.For (.Name x px) iter bL [] aI) (envX name aq L a cd cl)) Q E s:=wpAny_For h hs
theorem xhI{px:Pos}{Q:Flow→Shared→Prop}{ax:Addr}(C:Cx gx aH A ae aE az L dp un)(S:St ai ae L s l aa)(J:Nat→List (Str×Value)→List (Addr×Obj)→Prop)(N:Nat)(h0:J 0 l aa)(at_:∀i l' ag,J i l' ag→∃vs n,(ax,listOf vs n)∈ag∧vs.size≤N)(step:∀i v vs n s' l' ag it,J i l' ag→(ax,listOf vs n)∈ag→vs[i]?=some v→St ai ae L s' ((x,v)::l') (it::ag)→
      wpAny (model af gx.gw) A (execs bL (envX name aq L a cd cl)) (kL (fun bx=>∃ef bD,St ai ae L bx ef (it::bD)∧J (i+1) ef bD) Q) (notedBy (model af gx.gw) A (envX name aq L a cd cl) (cameBackBy (model af gx.gw) A (envX name aq L a cd cl) E)) s')(done:∀i vs n s' l' ag,J i l' ag→(ax,listOf vs n)∈ag→vs[i]?=none→St ai ae L s' l' ag→Q .next s')(hk:autoParam (aq.kind= .function) kr)(hl:autoParam ((envX name aq L a cd cl).kindOf x=some .local) kr):
  wpAny (model af gx.gw) A (pyIter (.ref ax)) (fun it bb=>
   codeAny (model af gx.gw) A (.forLoop (.Name x px) it bL [] (envX name aq L a cd cl)) (kB (model af gx.gw) A (envX name aq L a cd cl) Q E) bb) E s:=by
 have oA:∀{s':Shared} {l' ag vs n},St ai ae L s' l' ag→(ax,listOf vs n)∈ag→s'.heap.IsList ax vs:=fun S' hm=>⟨_,(S'.N _ hm).1,rfl,_,rfl⟩
 refine aP (at_ _ _ _ h0) fun vs n z1=>ay z1 fun hm z2=>?_
 clear z1
 refine wpAny_pyIter_list (oA S hm) ?_
 have S1:St ai ae L {s with heap:=s.heap.push {cls:= .type "list_iterator",data:= .fields #[.ref ax,.int 0 0]}} l ((s.heap.objs.size,{cls:= .type "list_iterator",data:= .fields #[.ref ax,.int 0 0]})::aa):=
  ⟨S.F.push _,S.N.push S.F _,S.nd S.lt,by rw[S.R]⟩
 generalize s.heap.objs.size=I at S1
 refine codeAny_forLoop (fun k s'=>∃i l' ag oi,oi.cls= .type "list_iterator"∧oi.data= .fields #[.ref ax,.int (i:Nat) 0]∧St ai ae L s' l' ((I,oi)::ag)∧J i l' ag∧i≤N∧k=N+1- i) ?_ (N+1) ⟨0,l,aa,_,rfl,rfl,S1,h0,Nat.zero_le _,rfl⟩
 rintro k s' ⟨i,l',ag,oi,hc,hd,S',hJ,hi,rfl⟩
 refine aP (at_ _ _ _ hJ) fun vs n z1=>ay z1 fun hm hz=>?_
 clear z1
 have hit:s'.heap.IsListIter I ax i:=⟨oi,(S'.N _ (.head _)).1,hc,hd⟩
 cases hv:vs[i]? with
 |some v=>
  have mL:i<N:=by
   have:i<vs.size:=by
    rcases Nat.lt_or_ge i vs.size with h|h
    ·exact h
    ·rw[Array.getElem?_eq_none h] at hv;cases hv
   exact OM hz this
  refine wpAny_pyNext_list_item hit (oA S' (.tail _ hm)) hv fun h' jh fi=>aS jh fun d8 z1=>aO z1 fun gB mJ fC=>?_
  clear jh z1
  have S2:=S'.top fi gB
  refine wpAny_assign_Name (jo S2 (hk:=hk) (hl:=hl) fun s2 S3=>wpAny_mono (step i v vs n s2 l' ag (I,d8) hJ hm hv S3) (fun f bx cP=>?_) fun zz zz e=>e)
  exact qp cP fun cP=>by obtain⟨l2,cf,a,b⟩:=cP;exact⟨N+1- (i+1),by exact oN mL,i+1,l2,cf,d8,mJ,fC,a,b,mL,rfl⟩
 |none=>
  refine wpAny_pyNext_list_end C.hh hit (oA S' (.tail _ hm)) hv fun h' fi=>wpAny_execs_nil ?_
  exact done i vs n _ l' ag hJ hm hv (S'.uH fi)
theorem U0{px:Pos}{Q:Flow→Shared→Prop}{ax:Addr}(C:Cx gx aH A ae aE az L dp un)(S:St ai ae L s l aa)(J:Nat→List (Str×Value)→List (Addr×Obj)→Prop)(N:Nat)(h0:J 0 l aa)(at_:∀i l' ag,J i l' ag→∃vs n,(ax,listOf vs n)∈ag∧vs.size≤N)(step:∀i v vs n s' l' ag it,J i l' ag→(ax,listOf vs n)∈ag→vs[i]?=some v→St ai ae L s' ((x,v)::l') (it::ag)→
      wpAny (model af gx.gw) A (execs bL (envX name aq L a cd cl)) (kL (fun bx=>∃ef bD,St ai ae L bx ef (it::bD)∧J (i+1) ef bD) Q) (notedBy (model af gx.gw) A (envX name aq L a cd cl) (cameBackBy (model af gx.gw) A (envX name aq L a cd cl) E)) s')(done:∀i vs n s' l' ag,J i l' ag→(ax,listOf vs n)∈ag→vs[i]?=none→St ai ae L s' l' ag→Q .next s')(hq:autoParam ((aq.kind,aq.names.lookup x)=(.function,some .local)) kr):wpAny (model af gx.gw) A (pyIter (.ref ax)) (fun it bb=>
   codeAny (model af gx.gw) A (.forLoop (.Name x px) it bL [] (envX name aq L a cd cl)) (kB (model af gx.gw) A (envX name aq L a cd cl) Q E) bb) E s:=xhI C S J N h0 at_ step done (hk:=t1 hq) (hl:=t2 hq)
end
noncomputable def lC:Flow→Value
 | .ret v=>v
 |_=> .none
theorem xcy{bw:Str}{aF:Arguments}{dV kV eN pm cU ct oc:Value}{an od:Option Addr}{ma:Array (Option Value)}{f:Addr}{args:Args}{em gV:List (Str×Value)}(hr:em.reverse=gV)(ho:(KF gx.gw.params).lookup f=some ⟨oc,od,.func (fnOf name bw aF bL aq dV kV eN pm an cU ct),ma⟩)(gT:codeIn (KF gx.gw.params) cU bw=true)(nU:∀s,(KF gx.gw.params).In s.heap→BindsTo s (fnOf name bw aF bL aq dV kV eN pm an cU ct) args em)(lN:∀y∈em,aq.names.lookup y.1=some .local)(jY:aq.isCoroutine=false)(j0:aq.isGenerator=false)(hk:aq.kind= .function)(jX:∀x∈aq.names,x.2≠.cell)(C:Cx gx aH A ae aE az L (dp+1) (un+3))(S:St ai ae L s l aa)(h:∀g L' aL,Cx gx A (A.deeper (envX bw aq L' f cU [])) g (az::aE) (envX bw aq L' f cU []) L' dp un→St ai g L' aL gV aa→
      wpAny (model af gx.gw) (A.deeper (envX bw aq L' f cU [])) (execs bL (envX bw aq L' f cU [])) (fun fl s'=>LeaveK ae L (dY l) g R (lC fl) s')
        (fun e s'=>wpAny (model af gx.gw) (A.deeper (envX bw aq L' f cU [])) (leaving (envX bw aq L' f cU []) e) (fun zz cM=>R (.error e) cM) (fun e' cM=>R (.error e') cM) s') aL):
  codeAny (model af gx.gw) A (.call (.ref f) args) R s:=
 code_def (K:=KF gx.gw.params) C.B S.F C.X S.N C.T C.hA C.hf C.hk ho gT (by have:=C.hd;exact Gg this) (nU _ (C.X.keeps S.F.keep)) lN (fun g L' dD FG F' N' B' X' T'=>h g L' _ (C.push B' X' T' rfl hk) ⟨hr▸F',N',S.D,by rw[S.R]⟩) jY j0 hk jX
abbrev EN(f:Addr)(args:List Value)(b:List Stmt)(e:Addr→Env)(rb:List (Str×Value)):Prop:=∀{af:Program} {gx:Gx} {aH A:Around} {ae:Heap} {aE:List Env} {az:Env} {L:Addr} {dp un:Nat} {s ai:Shared} {l:List (Str×Value)} {aa:List (Addr×Obj)} {R:Result→Shared→Prop} (C:Cx gx aH A ae aE az L (dp+1) (un+3)) (S:St ai ae L s l aa) (h:∀g L' aL,Cx gx A (A.deeper (e L')) g (az::aE) (e L') L' dp un→St ai g L' aL rb aa→wpAny (model af gx.gw) (A.deeper (e L')) (execs b (e L')) (fun fl s'=>LeaveK ae L (dY l) g R (lC fl) s') (fun e' s'=>wpAny (model af gx.gw) (A.deeper (e L')) (leaving (e L') e') (fun _ cM=>R (.error e') cM) (fun e' cM=>R (.error e') cM) s') aL),codeAny (model af gx.gw) A (.call (.ref f) ⟨args,[]⟩) R s
theorem bM{f:Addr}{args:List Value}{rb:List (Str×Value)}(d:Stmt)(x:String)(cd:Addr)(mo:Value)(dV:Value:= .none)(hb:autoParam (∀(w:World) s,(KF w.params).In s.heap→BindsTo s (fnOf (m8 d) (q x) (md d) (bt d) (bg d) dV .none .none mo none (.ref cd) .none) ⟨args,[]⟩ rb.reverse) bk)(ho:autoParam (∀w:World,(KF w.params).lookup f=some ⟨.type "function",none,.func (fnOf (m8 d) (q x) (md d) (bt d) (bg d) dV .none .none mo none (.ref cd) .none),#[]⟩) ik)(gT:autoParam (∀w:World,codeIn (KF w.params) (.ref cd) (q x)=true) ik)(lN:autoParam ((rb.reverse.all fun y=>decide ((bg d).names.lookup y.1=some .local))=true) kr)(jY:autoParam ((bg d).isCoroutine=false) kr)(j0:autoParam ((bg d).isGenerator=false) kr)(hk:autoParam ((bg d).kind= .function) kr)(hn:autoParam (((bg d).names.all fun x=>x.2 != .cell)=true) kr):EN f args (bt d) (fun L=>envX (q x) (bg d) L f (.ref cd) []) rb:=fun C S h=>xcy (List.reverse_reverse rb) (ho _) (gT _) (fun s=>hb _ s) (locs lN) jY j0 hk (lb hn) C S h
noncomputable def BJ(kd:Str→Option NameKind):List (Str×Value)→List (Str×Value)→List (Str×Value)
 |[],l=>l
 |(n,v)::r,l=>BJ kd r (if kd n=some .local then (n,v)::l else l)
theorem AX(kd:Str→Option NameKind):∀(em l:List (Str×Value)),bindL kd em (dY l)=dY (BJ kd em l)
 |[],l=>rfl
 |(n,v)::r,l=>by
  unfold bindL BJ
  by_cases h:kd n=some .local
  ·rw[if_pos h,if_pos h,BL];exact AX kd r _
  ·rw[if_neg h,if_neg h];exact AX kd r _
theorem A4{bw:Str}{aF:Arguments}{dV kV eN pm cU ct oc:Value}{an od:Option Addr}{ma:Array (Option Value)}{f:Addr}{args:Args}{em gV:List (Str×Value)}(hr:BJ (fun n=>aq.names.lookup n) em []=gV)(fY:∀n,cellsFrom n aq.names []=[(x,n)])(Bm:bindC (fun n=>aq.names.lookup n) em (fun zz=>none) x=some v)(ho:(KF gx.gw.params).lookup f=some ⟨oc,od,.func (fnOf name bw aF bL aq dV kV eN pm an cU ct),ma⟩)(gT:codeIn (KF gx.gw.params) cU bw=true)(nU:∀s,(KF gx.gw.params).In s.heap→BindsTo s (fnOf name bw aF bL aq dV kV eN pm an cU ct) args em)(gz:(em.all fun y=>aq.names.lookup y.1==some .local||aq.names.lookup y.1==some .cell)=true)(jY:aq.isCoroutine=false)(j0:aq.isGenerator=false)(hk:aq.kind= .function)(C:Cx gx aH A ae aE az L (dp+1) (un+3))(S:St ai ae L s l aa)(h:∀g L' aL oc,oc.data= .cell (some v)→Cx gx A (A.deeper (envX bw aq L' f cU [(x,L'+1)])) g (az::aE) (envX bw aq L' f cU [(x,L'+1)]) L' dp un→St ai g L' aL gV ((L'+1,oc)::aa)→
      wpAny (model af gx.gw) (A.deeper (envX bw aq L' f cU [(x,L'+1)])) (execs bL (envX bw aq L' f cU [(x,L'+1)])) (fun fl s'=>LeaveK ae L (dY l) g R (lC fl) s')
        (fun e s'=>wpAny (model af gx.gw) (A.deeper (envX bw aq L' f cU [(x,L'+1)])) (leaving (envX bw aq L' f cU [(x,L'+1)]) e) (fun zz cM=>R (.error e) cM) (fun e' cM=>R (.error e') cM) s') aL):
  codeAny (model af gx.gw) A (.call (.ref f) args) R s:=by
 refine code_defC (K:=KF gx.gw.params) C.B S.F C.X S.N C.T C.hA C.hf C.hk ho gT (by have:=C.hd;exact Gg this) (nU _ (C.X.keeps S.F.keep)) gz (by rw[fY];simp) (fun g L' dD tk cells FG F' N' Y B' X' T' lt=>?_) jY j0 hk
 rw[fY] at Y
 obtain⟨oc,rfl,fH⟩:=Y.one
 have e1:envOfC bw aq L' f cU=envX bw aq L' f cU [(x,L'+1)]:=by
  show envX bw aq L' f cU (cellsFrom (L'+1) aq.names [])=_
  rw[fY]
 have F2:Fr g L' dD (dY gV):=by
  have z:bindL (envOfC bw aq L' f cU).kindOf em (fun zz=>none)=dY gV:=by
   rw[←hr];exact AX _ em []
  rwa [z] at F'
 have hv:oc.data= .cell (some v):=by
  rw[fH];exact congrArg Data.cell Bm
 rw[e1]
 refine h g L' _ oc hv (C.push B' X' T' rfl hk) ⟨F2,N',?_,by rw[S.R]⟩
 rw[List.map_cons,List.nodup_cons]
 exact⟨fun hm=>by obtain⟨p,hp,e⟩:=List.mem_map.mp hm;have z:=lt p hp;rw[e] at z;exact absurd (Nat.lt_trans (Nat.lt_succ_self L') z) (Nat.lt_irrefl _),S.D⟩
noncomputable def XN:List Stmt:=bt (cA 31 0)
noncomputable def Zu:Scope:=bg (cA 31 0)
noncomputable abbrev xa5(L:Addr):Env:=envX (q "ClassTable.__init__") Zu L 343 (.ref 342) []
theorem xb9:EN 343 [v0] XN xa5 [(q "self",v0)]:=bM (cA 31 0) "ClassTable.__init__" 342 (.str (q "vectorcove.s4classes") 549)
noncomputable def XO:List Stmt:=bt (cA 31 1)
noncomputable def Zv:Scope:=bg (cA 31 1)
noncomputable abbrev xa6(L:Addr):Env:=envX (q "ClassTable.define") Zv L 350 (.ref 349) []
noncomputable def XQ:List Stmt:=bt (cA 31 2)
noncomputable def Zw:Scope:=bg (cA 31 2)
noncomputable abbrev xa7(L:Addr):Env:=envX (q "ClassTable.set_union") Zw L 357 (.ref 356) []
noncomputable def XR:List Stmt:=bt (cA 31 3)
noncomputable def Zx:Scope:=bg (cA 31 3)
noncomputable abbrev xa8(L:Addr):Env:=envX (q "ClassTable.get") Zx L 364 (.ref 363) []
theorem xcc:EN 364 [v0,v1] XR xa8 [(q "name",v1),(q "self",v0)]:=bM (cA 31 3) "ClassTable.get" 363 (.str (q "vectorcove.s4classes") 549)
noncomputable def XX:List Stmt:=bt (cA 31 9)
noncomputable def ZE:Scope:=bg (cA 31 9)
noncomputable abbrev xbe(L:Addr):Env:=envX (q "ClassTable.slots_of") ZE L 406 (.ref 405) []
theorem xcj:EN 406 [v0,v1] XX xbe [(q "name",v1),(q "self",v0)]:=bM (cA 31 9) "ClassTable.slots_of" 405 (.str (q "vectorcove.s4classes") 549)
noncomputable def XY:List Stmt:=bt (sA 32)
noncomputable def ZF:Scope:=bg (sA 32)
noncomputable abbrev xbf(L:Addr):Env:=envX (q "check_slots") ZF L 420 (.ref 419) []
theorem xck:EN 420 [v0,v1] XY xbf [(q "c",v1),(q "table",v0)]:=bM (sA 32) "check_slots" 419 (.str (q "vectorcove.s4classes") 549)
noncomputable def XZ:List Stmt:=bt (sA 33)
noncomputable def ZG:Scope:=bg (sA 33)
noncomputable abbrev xbg(L:Addr):Env:=envX (q "value_classes") ZG L 427 (.ref 426) []
theorem A3:EN 427 [v0] XZ xbg [(q "v",v0)]:=bM (sA 33) "value_classes" 426 (.str (q "vectorcove.s4classes") 549)
noncomputable def X3:List Stmt:=bt (sA 34)
noncomputable def ZH:Scope:=bg (sA 34)
noncomputable abbrev xbh(L:Addr):Env:=envX (q "class_supers") ZH L 434 (.ref 433) []
theorem xcl:EN 434 [v0,v1] X3 xbh [(q "v",v1),(q "table",v0)]:=bM (sA 34) "class_supers" 433 (.str (q "vectorcove.s4classes") 549)
noncomputable def X6:List Stmt:=bt (sA 35)
noncomputable def ZI:Scope:=bg (sA 35)
noncomputable abbrev xbi(L:Addr):Env:=envX (q "is_of") ZI L 441 (.ref 440) []
theorem xcm:EN 441 [v0,v1,v2] X6 xbi [(q "name",v2),(q "v",v1),(q "table",v0)]:=bM (sA 35) "is_of" 440 (.str (q "vectorcove.s4classes") 549)
noncomputable def Yd:List Stmt:=bt (sA 49)
noncomputable def ZP:Scope:=bg (sA 49)
noncomputable abbrev xbo(L:Addr):Env:=envX (q "character") ZP L 683 (.ref 682) []
theorem xcu:EN 683 [v0] Yd xbo [(q "items",v0)]:=bM (sA 49) "character" 682 (.str (q "vectorcove.values") 777)
noncomputable def Ye:List Stmt:=bt (sA 50)
noncomputable def ZQ:Scope:=bg (sA 50)
noncomputable abbrev xbp(L:Addr):Env:=envX (q "flag") ZQ L 690 (.ref 689) []
theorem xcv:EN 690 [v0] Ye xbp [(q "b",v0)]:=bM (sA 50) "flag" 689 (.str (q "vectorcove.values") 777)
noncomputable def XE:List Stmt:=bt (sA 2)
noncomputable def Zn:Scope:=bg (sA 2)
noncomputable abbrev xaY(L:Addr):Env:=envX (q "get_attr") Zn L 28 (.ref 27) []
theorem Rt:EN 28 [v0,v1] XE xaY [(q "name",v1),(q "v",v0)]:=bM (sA 2) "get_attr" 27 (.str (q "vectorcove.attrs") 194)
noncomputable def XM:List Stmt:=bt (sA 3)
noncomputable def Zt:Scope:=bg (sA 3)
noncomputable abbrev xa4(L:Addr):Env:=envX (q "names_of") Zt L 33 (.ref 32) []
theorem Ru:EN 33 [v0] XM xa4 [(q "v",v0)]:=bM (sA 3) "names_of" 32 (.str (q "vectorcove.attrs") 194)
noncomputable def XW:List Stmt:=bt (sA 4)
noncomputable def ZD:Scope:=bg (sA 4)
noncomputable abbrev xbd(L:Addr):Env:=envX (q "dim_of") ZD L 40 (.ref 39) []
theorem xci:EN 40 [v0] XW xbd [(q "v",v0)]:=bM (sA 4) "dim_of" 39 (.str (q "vectorcove.attrs") 194)
noncomputable def X7:List Stmt:=bt (sA 6)
noncomputable def ZK:Scope:=bg (sA 6)
noncomputable abbrev xbj(L:Addr):Env:=envX (q "class_attr") ZK L 52 (.ref 51) []
theorem xcp:EN 52 [v0] X7 xbj [(q "v",v0)]:=bM (sA 6) "class_attr" 51 (.str (q "vectorcove.attrs") 194)
noncomputable def Yc:List Stmt:=bt (sA 8)
noncomputable def ZO:Scope:=bg (sA 8)
noncomputable abbrev xbn(L:Addr):Env:=envX (q "shape_class") ZO L 66 (.ref 65) []
theorem xct:EN 66 [v0] Yc xbn [(q "v",v0)]:=bM (sA 8) "shape_class" 65 (.str (q "vectorcove.attrs") 194)
noncomputable def Yg:List Stmt:=bt (sA 9)
noncomputable def ZR:Scope:=bg (sA 9)
noncomputable abbrev xbq(L:Addr):Env:=envX (q "plain_class") ZR L 73 (.ref 72) []
theorem Hq:EN 73 [v0] Yg xbq [(q "v",v0)]:=bM (sA 9) "plain_class" 72 (.str (q "vectorcove.attrs") 194)
noncomputable def Yi:List Stmt:=bt (sA 10)
noncomputable def ZT:Scope:=bg (sA 10)
noncomputable abbrev xbs(L:Addr):Env:=envX (q "implicit_class") ZT L 80 (.ref 79) []
theorem Hr:EN 80 [v0] Yi xbs [(q "v",v0)]:=bM (sA 10) "implicit_class" 79 (.str (q "vectorcove.attrs") 194)
noncomputable def Yj:List Stmt:=bt (sA 11)
noncomputable def ZU:Scope:=bg (sA 11)
noncomputable abbrev xbt(L:Addr):Env:=envX (q "class_of") ZU L 87 (.ref 86) []
theorem Hs:EN 87 [v0] Yj xbt [(q "v",v0)]:=bM (sA 11) "class_of" 86 (.str (q "vectorcove.attrs") 194)
noncomputable def Yl:List Stmt:=bt (sA 69)
noncomputable def ZW:Scope:=bg (sA 69)
noncomputable abbrev xbv(L:Addr):Env:=envX (q "s4_state") ZW L 889 (.ref 888) []
theorem Rv:EN 889 [v0] Yl xbv [(q "interp",v0)]:=bM (sA 69) "s4_state" 888 (.str (q "vectorcove.s4objects") 1392)
noncomputable def W9:List Stmt:=bt (sA 92)
noncomputable def YR:Scope:=bg (sA 92)
noncomputable abbrev xau(L:Addr):Env:=envX (q "quiet") YR L 1042 (.ref 1041) []
theorem xbx:EN 1042 [v0,v1] W9 xau [(q "value",v1),(q "interp",v0)]:=bM (sA 92) "quiet" 1041 (.str (q "vectorcove.s4classcalls") 1657)
noncomputable def Xa:List Stmt:=bt (sA 93)
noncomputable def YS:Scope:=bg (sA 93)
noncomputable abbrev xav(L:Addr):Env:=envX (q "one_name") YS L 1049 (.ref 1048) []
theorem xby:EN 1049 [v0,v1] Xa xav [(q "what",v1),(q "value",v0)]:=bM (sA 93) "one_name" 1048 (.str (q "vectorcove.s4classcalls") 1657)
noncomputable def Xb:List Stmt:=bt (sA 94)
noncomputable def YT:Scope:=bg (sA 94)
noncomputable abbrev xaw(L:Addr):Env:=envX (q "text_pairs") YT L 1056 (.ref 1055) []
theorem Hp:EN 1056 [v0] Xb xaw [(q "value",v0)]:=bM (sA 94) "text_pairs" 1055 (.str (q "vectorcove.s4classcalls") 1657)
noncomputable def Xc:List Stmt:=bt (sA 95)
noncomputable def YU:Scope:=bg (sA 95)
noncomputable abbrev xax(L:Addr):Env:=envX (q "class_parts") YU L 1061 (.ref 1060) []
theorem xbz:EN 1061 [v0,v1,v2] Xc xax [(q "contains",v2),(q "slots",v1),(q "representation",v0)]:=bM (sA 95) "class_parts" 1060 (.str (q "vectorcove.s4classcalls") 1657)
noncomputable def Xd:List Stmt:=bt (sA 96)
noncomputable def YV:Scope:=bg (sA 96)
noncomputable abbrev xay(L:Addr):Env:=envX (q "prototype_parts") YV L 1068 (.ref 1067) []
theorem xbA:EN 1068 [v0] Xd xay [(q "value",v0)]:=bM (sA 96) "prototype_parts" 1067 (.str (q "vectorcove.s4classcalls") 1657)
noncomputable def Xe:List Stmt:=bt (sA 97)
noncomputable def YW:Scope:=bg (sA 97)
noncomputable abbrev xaz(L:Addr):Env:=envX (q "check_prototype") YW L 1075 (.ref 1074) []
theorem xbB:EN 1075 [v0,v1] Xe xaz [(q "c",v1),(q "table",v0)]:=bM (sA 97) "check_prototype" 1074 (.str (q "vectorcove.s4classcalls") 1657)
noncomputable def Xf:List Stmt:=bt (sA 99)
noncomputable def YX:Scope:=bg (sA 99)
noncomputable abbrev xaA(L:Addr):Env:=envX (q "b_setClass") YX L 1089 (.ref 1088) []
noncomputable def Xg:List Stmt:=bt (sA 100)
noncomputable def YY:Scope:=bg (sA 100)
noncomputable abbrev xaB(L:Addr):Env:=envX (q "b_setClassUnion") YY L 1094 (.ref 1093) []
noncomputable def Xi:List Stmt:=bt (sA 103)
noncomputable def Y0:Scope:=bg (sA 103)
noncomputable abbrev xaD(L:Addr):Env:=envX (q "b_isVirtualClass") Y0 L 1115 (.ref 1114) []
theorem xbG:EN 1115 [v0,v1,v2] Xi xaD [(q "env",v2),(q "args",v1),(q "interp",v0)]:=bM (sA 103) "b_isVirtualClass" 1114 (.str (q "vectorcove.s4classcalls") 1657)
noncomputable def Xj:List Stmt:=bt (sA 104)
noncomputable def Y3:Scope:=bg (sA 104)
noncomputable abbrev xaE(L:Addr):Env:=envX (q "b_is") Y3 L 1120 (.ref 1119) []
theorem xbH:EN 1120 [v0,v1,v2] Xj xaE [(q "env",v2),(q "args",v1),(q "interp",v0)]:=bM (sA 104) "b_is" 1119 (.str (q "vectorcove.s4classcalls") 1657)
noncomputable def Xk:List Stmt:=bt (sA 105)
noncomputable def Y4:Scope:=bg (sA 105)
noncomputable abbrev xaF(L:Addr):Env:=envX (q "b_extends") Y4 L 1127 (.ref 1126) []
theorem xbI:EN 1127 [v0,v1,v2] Xk xaF [(q "env",v2),(q "args",v1),(q "interp",v0)]:=bM (sA 105) "b_extends" 1126 (.str (q "vectorcove.s4classcalls") 1657)
noncomputable def Xl:List Stmt:=bt (sA 106)
noncomputable def Y5:Scope:=bg (sA 106)
noncomputable abbrev xaG(L:Addr):Env:=envX (q "slot_rows") Y5 L 1134 (.ref 1133) []
theorem xbJ:EN 1134 [v0,v1] Xl xaG [(q "value",v1),(q "interp",v0)]:=bM (sA 106) "slot_rows" 1133 (.str (q "vectorcove.s4classcalls") 1657)
noncomputable def Xm:List Stmt:=bt (sA 107)
noncomputable def Y6:Scope:=bg (sA 107)
noncomputable abbrev xaH(L:Addr):Env:=envX (q "b_slotNames") Y6 L 1139 (.ref 1138) []
theorem xbK:EN 1139 [v0,v1,v2] Xm xaH [(q "env",v2),(q "args",v1),(q "interp",v0)]:=bM (sA 107) "b_slotNames" 1138 (.str (q "vectorcove.s4classcalls") 1657)
noncomputable def Xh:List Stmt:=bt (sA 102)
noncomputable def YZ:Scope:=bg (sA 102)
noncomputable abbrev xaC(L:Addr):Env:=envX (q "split_first") YZ L 1108 (.ref 1107) []
theorem xbF:EN 1108 [v0,v1] Xh xaC [(q "name",v1),(q "args",v0)]:=bM (sA 102) "split_first" 1107 (.str (q "vectorcove.s4classcalls") 1657)
noncomputable def Xq:List Stmt:=bt (sA 127)
noncomputable def Za:Scope:=bg (sA 127)
noncomputable abbrev xaL(L:Addr):Env:=envX (q "_law_pips") Za L 1460 (.ref 1459) []
theorem xbO:EN 1460 [v0] Xq xaL [(q "script",v0)]:=bM (sA 127) "_law_pips" 1459 (.str (q "law_pq1369_01") 2294)
noncomputable def Xr:List Stmt:=bt (sA 128)
noncomputable def Zb:Scope:=bg (sA 128)
noncomputable abbrev xaM(L:Addr):Env:=envX (q "_law_pip") Zb L 1467 (.ref 1466) []
theorem xbP:EN 1467 [v0,v1] Xr xaM [(q "many",v1),(q "pips",v0)]:=bM (sA 128) "_law_pip" 1466 (.str (q "law_pq1369_01") 2294)
noncomputable def Xs:List Stmt:=bt (sA 129)
noncomputable def Zc:Scope:=bg (sA 129)
noncomputable abbrev xaN(L:Addr):Env:=envX (q "_law_word") Zc L 1474 (.ref 1473) []
theorem xbQ:EN 1474 [v0] Xs xaN [(q "word",v0)]:=bM (sA 129) "_law_word" 1473 (.str (q "law_pq1369_01") 2294)
noncomputable def Xu:List Stmt:=bt (sA 130)
noncomputable def Zd:Scope:=bg (sA 130)
noncomputable abbrev xaO(L:Addr):Env:=envX (q "_law_above") Zd L 1481 (.ref 1480) []
theorem xbR:EN 1481 [v0,v1] Xu xaO [(q "word",v1),(q "world",v0)]:=bM (sA 130) "_law_above" 1480 (.str (q "law_pq1369_01") 2294)
noncomputable def Xv:List Stmt:=bt (sA 131)
noncomputable def Ze:Scope:=bg (sA 131)
noncomputable abbrev xaP(L:Addr):Env:=envX (q "_law_is_known") Ze L 1488 (.ref 1487) []
theorem xbS:EN 1488 [v0,v1] Xv xaP [(q "word",v1),(q "world",v0)]:=bM (sA 131) "_law_is_known" 1487 (.str (q "law_pq1369_01") 2294)
noncomputable def Xw:List Stmt:=bt (sA 132)
noncomputable def Zf:Scope:=bg (sA 132)
noncomputable abbrev xaQ(L:Addr):Env:=envX (q "_law_due") Zf L 1495 (.ref 1494) []
theorem xbT{v3:Value}:EN 1495 [v0,v1,v2,v3] Xw xaQ [(q "as_union",v3),(q "joiners",v2),(q "word",v1),(q "world",v0)]:=bM (sA 132) "_law_due" 1494 (.str (q "law_pq1369_01") 2294)
noncomputable def Xx:List Stmt:=bt (sA 133)
noncomputable def Zg:Scope:=bg (sA 133)
noncomputable abbrev xaR(L:Addr):Env:=envX (q "_law_set") Zg L 1502 (.ref 1501) []
noncomputable def Xn:List Stmt:=bt (cA 14 0)
noncomputable def Y7:Scope:=bg (cA 14 0)
noncomputable abbrev xaI(L:Addr):Env:=envX (q "Refusal.__init__") Y7 L 114 (.ref 113) []
theorem xbL:EN 114 [v0,v1] Xn xaI [(q "message",v1),(q "self",v0)]:=bM (cA 14 0) "Refusal.__init__" 113 (.str (q "vectorcove.errors") 273)
noncomputable def Xy:List Stmt:=bt (cA 20 0)
noncomputable def Zh:Scope:=bg (cA 20 0)
noncomputable abbrev xaS(L:Addr):Env:=envX (q "Matching.__init__") Zh L 209 (.ref 208) []
theorem xbW:EN 209 [v0,v1,v2] Xy xaS [(q "tags",v2),(q "formals",v1),(q "self",v0)]:=bM (cA 20 0) "Matching.__init__" 208 (.str (q "vectorcove.callargs") 428)
noncomputable def Xz:List Stmt:=bt (cA 20 1)
noncomputable def Zi:Scope:=bg (cA 20 1)
noncomputable abbrev xaT(L:Addr):Env:=envX (q "Matching.exact") Zi L 216 (.ref 215) []
theorem xbX:EN 216 [v0] Xz xaT [(q "self",v0)]:=bM (cA 20 1) "Matching.exact" 215 (.str (q "vectorcove.callargs") 428)
noncomputable def XA:List Stmt:=bt (cA 20 2)
noncomputable def Zj:Scope:=bg (cA 20 2)
noncomputable abbrev xaU(L:Addr):Env:=envX (q "Matching.partial") Zj L 223 (.ref 222) []
theorem xbY:EN 223 [v0] XA xaU [(q "self",v0)]:=bM (cA 20 2) "Matching.partial" 222 (.str (q "vectorcove.callargs") 428)
noncomputable def XB:List Stmt:=bt (cA 20 3)
noncomputable def Zk:Scope:=bg (cA 20 3)
noncomputable abbrev xaV(L:Addr):Env:=envX (q "Matching.partial_of") Zk L 230 (.ref 229) []
theorem xbZ:EN 230 [v0,v1] XB xaV [(q "name",v1),(q "self",v0)]:=bM (cA 20 3) "Matching.partial_of" 229 (.str (q "vectorcove.callargs") 428)
noncomputable def XC:List Stmt:=bt (cA 20 4)
noncomputable def Zl:Scope:=bg (cA 20 4)
noncomputable abbrev xaW(L:Addr):Env:=envX (q "Matching.positional") Zl L 237 (.ref 236) []
theorem xb0:EN 237 [v0] XC xaW [(q "self",v0)]:=bM (cA 20 4) "Matching.positional" 236 (.str (q "vectorcove.callargs") 428)
noncomputable def XD:List Stmt:=bt (cA 20 5)
noncomputable def Zm:Scope:=bg (cA 20 5)
noncomputable abbrev xaX(L:Addr):Env:=envX (q "Matching.is_free") Zm L 244 (.ref 243) []
theorem xb1:EN 244 [v0,v1] XD xaX [(q "place",v1),(q "self",v0)]:=bM (cA 20 5) "Matching.is_free" 243 (.str (q "vectorcove.callargs") 428)
noncomputable def XG:List Stmt:=bt (cA 27 0)
noncomputable def Zp:Scope:=bg (cA 27 0)
noncomputable abbrev xa0(L:Addr):Env:=envX (q "S4Class.__init__") Zp L 301 (.ref 300) []
theorem xb5{v3 v4 v5 v6:Value}:EN 301 [v0,v1,v2,v3,v4,v5,v6] XG xa0 [(q "prototype",v6),(q "virtual",v5),(q "validity",v4),(q "contains",v3),(q "slots",v2),(q "name",v1),(q "self",v0)]:=bM (cA 27 0) "S4Class.__init__" 300 (.str (q "vectorcove.s4classes") 549)
noncomputable def X8:List Stmt:=bt (cA 42 0)
noncomputable def ZL:Scope:=bg (cA 42 0)
noncomputable abbrev xbk(L:Addr):Env:=envX (q "Builtin.__init__") ZL L 570 (.ref 569) []
theorem xcq{v3 v4:Value}:EN 570 [v0,v1,v2,v3,v4] X8 xbk [(q "group",v4),(q "fn",v3),(q "special",v2),(q "name",v1),(q "self",v0)]:=bM (cA 42 0) "Builtin.__init__" 569 (.str (q "vectorcove.values") 777)
noncomputable def Yb:List Stmt:=bt (cA 46 0)
noncomputable def ZN:Scope:=bg (cA 46 0)
noncomputable abbrev xbm(L:Addr):Env:=envX (q "S4Object.__init__") ZN L 655 (.ref 654) []
theorem xcs:EN 655 [v0,v1] Yb xbm [(q "name",v1),(q "self",v0)]:=bM (cA 46 0) "S4Object.__init__" 654 (.str (q "vectorcove.values") 777)
noncomputable def Yh:List Stmt:=bt (cA 64 0)
noncomputable def ZS:Scope:=bg (cA 64 0)
noncomputable abbrev xbr(L:Addr):Env:=envX (q "MethodTable.__init__") ZS L 786 (.ref 785) []
theorem xcw:EN 786 [v0] Yh xbr [(q "self",v0)]:=bM (cA 64 0) "MethodTable.__init__" 785 (.str (q "vectorcove.s4methods") 1266)
noncomputable def Yk:List Stmt:=bt (cA 68 0)
noncomputable def ZV:Scope:=bg (cA 68 0)
noncomputable abbrev xbu(L:Addr):Env:=envX (q "S4State.__init__") ZV L 875 (.ref 874) []
theorem xcx:EN 875 [v0] Yk xbu [(q "self",v0)]:=bM (cA 68 0) "S4State.__init__" 874 (.str (q "vectorcove.s4objects") 1392)
noncomputable def Xp:List Stmt:=bt (cA 123 1)
noncomputable def Y9:Scope:=bg (cA 123 1)
noncomputable abbrev xaK(L:Addr):Env:=envX (q "Evaluator.new_env") Y9 L 1258 (.ref 1257) []
theorem xbN:EN 1258 [v0,v1] Xp xaK [(q "parent",v1),(q "self",v0)]:=bM (cA 123 1) "Evaluator.new_env" 1257 (.str (q "vectorcove.evaluator") 1911)
noncomputable def Qu:List Stmt:=bt (cA 38 0)
noncomputable def ZJ:Scope:=bg (cA 38 0)
noncomputable abbrev Rs(L:Addr):Env:=envX (q "Vector.__init__") ZJ L 477 (.ref 476) []
theorem xcn{v3:Value}:EN 477 [v0,v1,v2,v3] Qu Rs [(q "attrs",v3),(q "items",v2),(q "kind",v1),(q "self",v0)]:=bM (cA 38 0) "Vector.__init__" 476 (.str (q "vectorcove.values") 777) (.ref 470) (fun w zz X=>binds_K (k:=_) (o:=b0) X rfl (by kernel_rfl) rfl rfl (by kernel_rfl))
theorem xco:EN 477 [v0,v1,v2] Qu Rs [(q "attrs",.none),(q "items",v2),(q "kind",v1),(q "self",v0)]:=bM (cA 38 0) "Vector.__init__" 476 (.str (q "vectorcove.values") 777) (.ref 470) (fun w zz X=>binds_K (k:=_) (o:=b0) X rfl (by kernel_rfl) rfl rfl (by kernel_rfl))
noncomputable def X9:List Stmt:=bt (cA 43 0)
noncomputable def ZM:Scope:=bg (cA 43 0)
noncomputable abbrev xbl(L:Addr):Env:=envX (q "Environment.__init__") ZM L 592 (.ref 591) []
theorem xcr:EN 592 [v0,v1,v2] X9 xbl [(q "attrs",.none),(q "parent",v2),(q "number",v1),(q "self",v0)]:=bM (cA 43 0) "Environment.__init__" 591 (.str (q "vectorcove.values") 777) (.ref 585) (fun w zz X=>binds_K (k:=_) (o:=b0) X rfl (by kernel_rfl) rfl rfl (by kernel_rfl))
noncomputable def Xo:List Stmt:=bt (cA 123 0)
noncomputable def Y8:Scope:=bg (cA 123 0)
noncomputable abbrev xaJ(L:Addr):Env:=envX (q "Evaluator.__init__") Y8 L 1251 (.ref 1250) []
theorem xbM:EN 1251 [v0,v1] Xo xaJ [(q "most_frames",.int 40 1965),(q "limit",v1),(q "self",v0)]:=bM (cA 123 0) "Evaluator.__init__" 1250 (.str (q "vectorcove.evaluator") 1911) (.ref 1244) (fun w zz X=>binds_K (k:=_) (o:=Gc) X rfl (by kernel_rfl) rfl rfl (by kernel_rfl))
noncomputable def XF:List Stmt:=bt (sA 24)
noncomputable def Zo:Scope:=bg (sA 24)
noncomputable abbrev xaZ(L:Addr):Env:=envX (q "match_names") Zo L 281 (.ref 280) []
theorem xb3:EN 281 [v0,v1,v2] XF xaZ [(q "show",v2),(q "args",v1),(q "formals",v0)]:=bM (sA 24) "match_names" 280 (.str (q "vectorcove.callargs") 428) (.ref 276) (fun w zz X=>binds_K (k:=_) (o:=b0) X rfl (by kernel_rfl) rfl rfl (by kernel_rfl))
noncomputable def Qr:List Stmt:=bt (cA 20 6)
noncomputable def QC:Scope:=bg (cA 20 6)
noncomputable abbrev pL(L:Addr):Env:=envX (q "Matching.rest") QC L 249 (.ref 248) [(q "self",L+1)]
theorem xb2(C:Cx gx aH A ae aE az L (dp+1) (un+3))(S:St ai ae L s l aa)(h:∀g L' aL oc,oc.data= .cell (some v0)→Cx gx A (A.deeper (pL L')) g (az::aE) (pL L') L' dp un→St ai g L' aL [] ((L'+1,oc)::aa)→
      wpAny (model af gx.gw) (A.deeper (pL L')) (execs Qr (pL L')) (fun fl s'=>LeaveK ae L (dY l) g R (lC fl) s')
        (fun e s'=>wpAny (model af gx.gw) (A.deeper (pL L')) (leaving (pL L') e) (fun zz cM=>R (.error e) cM) (fun e' cM=>R (.error e') cM) s') aL):
  codeAny (model af gx.gw) A (.call (.ref 249) ⟨[v0],[]⟩) R s:=
 by
 exists A4 (name:=m8 (cA 20 6)) (bw:=q "Matching.rest") (aF:=md (cA 20 6)) (bL:=Qr) (aq:=QC) (dV:= .none) (kV:= .none) (eN:= .none) (pm:= .str (q "vectorcove.callargs") 428) (cU:= .ref 248) (ct:= .none) (an:=none) (oc:= .type "function") (od:=none) (ma:=#[]) (em:=[(q "self",v0)]) (gV:=[]) (x:=q "self") ?_ ?_ ?_ ?_ ?_ ?_ ?_ ?_ ?_ kf C S h
 ·kernel_rfl
 ·intro n;kernel_rfl
 ·kernel_rfl
 ·kernel_rfl
 ·kernel_rfl
 ·exact fun zz zz=>BindsTo.of_eq (by kernel_rfl)
 ·kernel_rfl
 ·kernel_rfl
 ·kernel_rfl
noncomputable def Qs:List Stmt:=bt (sA 25)
noncomputable def QD:Scope:=bg (sA 25)
noncomputable abbrev pM(L:Addr):Env:=envX (q "take") QD L 287 (.ref 286) [(q "args",L+1)]
theorem xb4(C:Cx gx aH A ae aE az L (dp+1) (un+3))(S:St ai ae L s l aa)(h:∀g L' aL oc,oc.data= .cell (some v0)→Cx gx A (A.deeper (pM L')) g (az::aE) (pM L') L' dp un→St ai g L' aL [(q "show",.none),(q "formals",v1)] ((L'+1,oc)::aa)→
      wpAny (model af gx.gw) (A.deeper (pM L')) (execs Qs (pM L')) (fun fl s'=>LeaveK ae L (dY l) g R (lC fl) s')
        (fun e s'=>wpAny (model af gx.gw) (A.deeper (pM L')) (leaving (pM L') e) (fun zz cM=>R (.error e) cM) (fun e' cM=>R (.error e') cM) s') aL):
  codeAny (model af gx.gw) A (.call (.ref 287) ⟨[v0,v1],[]⟩) R s:=
 by
 exists A4 (name:=m8 (sA 25)) (bw:=q "take") (aF:=md (sA 25)) (bL:=Qs) (aq:=QD) (dV:= .ref 282) (kV:= .none) (eN:= .none) (pm:= .str (q "vectorcove.callargs") 428) (cU:= .ref 286) (ct:= .none) (an:=none) (oc:= .type "function") (od:=none) (ma:=#[]) (em:=[(q "args",v0),(q "formals",v1),(q "show",.none)]) (gV:=[(q "show",.none),(q "formals",v1)]) (x:=q "args") ?_ ?_ ?_ ?_ ?_ ?_ ?_ ?_ ?_ kf C S h
 ·kernel_rfl
 ·intro n;kernel_rfl
 ·kernel_rfl
 ·kernel_rfl
 ·kernel_rfl
 ·exact fun zz X=>binds_K (k:=_) (o:=b0) X rfl (by kernel_rfl) rfl rfl (by kernel_rfl)
 ·kernel_rfl
 ·kernel_rfl
 ·kernel_rfl
noncomputable def Qp:List Stmt:=bt (sA 98)
noncomputable def QA:Scope:=bg (sA 98)
noncomputable abbrev pJ(L:Addr):Env:=envX (q "generator") QA L 1082 (.ref 1081) [(q "name",L+1)]
theorem xbC(C:Cx gx aH A ae aE az L (dp+1) (un+3))(S:St ai ae L s l aa)(h:∀g L' aL oc,oc.data= .cell (some v0)→Cx gx A (A.deeper (pJ L')) g (az::aE) (pJ L') L' dp un→St ai g L' aL [] ((L'+1,oc)::aa)→
      wpAny (model af gx.gw) (A.deeper (pJ L')) (execs Qp (pJ L')) (fun fl s'=>LeaveK ae L (dY l) g R (lC fl) s')
        (fun e s'=>wpAny (model af gx.gw) (A.deeper (pJ L')) (leaving (pJ L') e) (fun zz cM=>R (.error e) cM) (fun e' cM=>R (.error e') cM) s') aL):
  codeAny (model af gx.gw) A (.call (.ref 1082) ⟨[v0],[]⟩) R s:=
 by
 exists A4 (name:=m8 (sA 98)) (bw:=q "generator") (aF:=md (sA 98)) (bL:=Qp) (aq:=QA) (dV:= .none) (kV:= .none) (eN:= .none) (pm:= .str (q "vectorcove.s4classcalls") 1657) (cU:= .ref 1081) (ct:= .none) (an:=none) (oc:= .type "function") (od:=none) (ma:=#[]) (em:=[(q "name",v0)]) (gV:=[]) (x:=q "name") ?_ ?_ ?_ ?_ ?_ ?_ ?_ ?_ ?_ kf C S h
 ·kernel_rfl
 ·intro n;kernel_rfl
 ·kernel_rfl
 ·kernel_rfl
 ·kernel_rfl
 ·exact fun zz zz=>BindsTo.of_eq (by kernel_rfl)
 ·kernel_rfl
 ·kernel_rfl
 ·kernel_rfl
noncomputable def Qq:List Stmt:=bt (sA 135)
noncomputable def QB:Scope:=bg (sA 135)
noncomputable abbrev pK(L:Addr):Env:=envX (q "_law_slots_of") QB L 1512 (.ref 1511) [(q "world",L+1)]
theorem xbV(C:Cx gx aH A ae aE az L (dp+1) (un+3))(S:St ai ae L s l aa)(h:∀g L' aL oc,oc.data= .cell (some v0)→Cx gx A (A.deeper (pK L')) g (az::aE) (pK L') L' dp un→St ai g L' aL [(q "word",v1)] ((L'+1,oc)::aa)→
      wpAny (model af gx.gw) (A.deeper (pK L')) (execs Qq (pK L')) (fun fl s'=>LeaveK ae L (dY l) g R (lC fl) s')
        (fun e s'=>wpAny (model af gx.gw) (A.deeper (pK L')) (leaving (pK L') e) (fun zz cM=>R (.error e) cM) (fun e' cM=>R (.error e') cM) s') aL):
  codeAny (model af gx.gw) A (.call (.ref 1512) ⟨[v0,v1],[]⟩) R s:=
 by
 exists A4 (name:=m8 (sA 135)) (bw:=q "_law_slots_of") (aF:=md (sA 135)) (bL:=Qq) (aq:=QB) (dV:= .none) (kV:= .none) (eN:= .none) (pm:= .str (q "law_pq1369_01") 2294) (cU:= .ref 1511) (ct:= .none) (an:=none) (oc:= .type "function") (od:=none) (ma:=#[]) (em:=[(q "world",v0),(q "word",v1)]) (gV:=[(q "word",v1)]) (x:=q "world") ?_ ?_ ?_ ?_ ?_ ?_ ?_ ?_ ?_ kf C S h
 ·kernel_rfl
 ·intro n;kernel_rfl
 ·kernel_rfl
 ·kernel_rfl
 ·kernel_rfl
 ·exact fun zz zz=>BindsTo.of_eq (by kernel_rfl)
 ·kernel_rfl
 ·kernel_rfl
 ·kernel_rfl
variable (P:Params)
abbrev GL(P:Params)(x:String)(a:Addr):Prop:=nsIn (KF P) mainGlobals (q x)=some (some (.ref a))∧keepIn (KF P) (.ref a)=true
theorem aA{α β:Type}{a a':α}{b b':β}(h:(a,b)=(a',b')):a=a':=congrArg Prod.fst h
theorem aj{α β:Type}{a a':α}{b b':β}(h:(a,b)=(a',b')):b=b':=congrArg Prod.snd h
theorem Bc:(nsIn (KF P) mainGlobals (q "get_attr"),
 nsIn (KF P) mainGlobals (q "names_of"),
 nsIn (KF P) mainGlobals (q "dim_of"),
 nsIn (KF P) mainGlobals (q "dimnames_of"),
 nsIn (KF P) mainGlobals (q "class_attr"),
 nsIn (KF P) mainGlobals (q "language_class"))=
 (some (some (.ref 28)),some (some (.ref 33)),some (some (.ref 40)),some (some (.ref 45)),some (some (.ref 52)),some (some (.ref 59))):=by kernel_rfl
theorem Bd:(nsIn (KF P) mainGlobals (q "shape_class"),
 nsIn (KF P) mainGlobals (q "plain_class"),
 nsIn (KF P) mainGlobals (q "implicit_class"),
 nsIn (KF P) mainGlobals (q "class_of"),
 nsIn (KF P) mainGlobals (q "doubled_text"),
 nsIn (KF P) mainGlobals (q "unused_text"))=
 (some (some (.ref 66)),some (some (.ref 73)),some (some (.ref 80)),some (some (.ref 87)),some (some (.ref 263)),some (some (.ref 275))):=by kernel_rfl
theorem pP:(nsIn (KF P) mainGlobals (q "match_names"),
 nsIn (KF P) mainGlobals (q "take"),
 nsIn (KF P) mainGlobals (q "data_kinds"),
 nsIn (KF P) mainGlobals (q "basic_names"),
 nsIn (KF P) mainGlobals (q "basic_parents"),
 nsIn (KF P) mainGlobals (q "check_slots"))=
 (some (some (.ref 281)),some (some (.ref 287)),some (some (.ref 315)),some (some (.ref 322)),some (some (.ref 329)),some (some (.ref 420))):=by kernel_rfl
theorem vg:(nsIn (KF P) mainGlobals (q "value_classes"),
 nsIn (KF P) mainGlobals (q "class_supers"),
 nsIn (KF P) mainGlobals (q "is_of"),
 nsIn (KF P) mainGlobals (q "integer"),
 nsIn (KF P) mainGlobals (q "character"),
 nsIn (KF P) mainGlobals (q "flag"))=
 (some (some (.ref 427)),some (some (.ref 434)),some (some (.ref 441)),some (some (.ref 676)),some (some (.ref 683)),some (some (.ref 690))):=by kernel_rfl
theorem pQ:(nsIn (KF P) mainGlobals (q "s4_state"),
 nsIn (KF P) mainGlobals (q "quiet"),
 nsIn (KF P) mainGlobals (q "one_name"),
 nsIn (KF P) mainGlobals (q "text_pairs"),
 nsIn (KF P) mainGlobals (q "class_parts"),
 nsIn (KF P) mainGlobals (q "prototype_parts"))=
 (some (some (.ref 889)),some (some (.ref 1042)),some (some (.ref 1049)),some (some (.ref 1056)),some (some (.ref 1061)),some (some (.ref 1068))):=by kernel_rfl
theorem pR:(nsIn (KF P) mainGlobals (q "check_prototype"),
 nsIn (KF P) mainGlobals (q "generator"),
 nsIn (KF P) mainGlobals (q "b_setClass"),
 nsIn (KF P) mainGlobals (q "b_setClassUnion"),
 nsIn (KF P) mainGlobals (q "split_first"),
 nsIn (KF P) mainGlobals (q "b_isVirtualClass"))=
 (some (some (.ref 1075)),some (some (.ref 1082)),some (some (.ref 1089)),some (some (.ref 1094)),some (some (.ref 1108)),some (some (.ref 1115))):=by kernel_rfl
theorem vh:(nsIn (KF P) mainGlobals (q "b_is"),
 nsIn (KF P) mainGlobals (q "b_extends"),
 nsIn (KF P) mainGlobals (q "slot_rows"),
 nsIn (KF P) mainGlobals (q "b_slotNames"),
 nsIn (KF P) mainGlobals (q "is_function"),
 nsIn (KF P) mainGlobals (q "_law_pips"))=
 (some (some (.ref 1120)),some (some (.ref 1127)),some (some (.ref 1134)),some (some (.ref 1139)),some (some (.ref 718)),some (some (.ref 1460))):=by kernel_rfl
theorem pS:(nsIn (KF P) mainGlobals (q "_law_pip"),
 nsIn (KF P) mainGlobals (q "_law_word"),
 nsIn (KF P) mainGlobals (q "_law_above"),
 nsIn (KF P) mainGlobals (q "_law_is_known"),
 nsIn (KF P) mainGlobals (q "_law_due"),
 nsIn (KF P) mainGlobals (q "_law_set"))=
 (some (some (.ref 1467)),some (some (.ref 1474)),some (some (.ref 1481)),some (some (.ref 1488)),some (some (.ref 1495)),some (some (.ref 1502))):=by kernel_rfl
theorem pT:(nsIn (KF P) mainGlobals (q "_law_slots_of"),
 nsIn (KF P) mainGlobals (q "Refusal"),
 nsIn (KF P) mainGlobals (q "Matching"),
 nsIn (KF P) mainGlobals (q "S4Class"),
 nsIn (KF P) mainGlobals (q "ClassTable"),
 nsIn (KF P) mainGlobals (q "Vector"))=
 (some (some (.ref 1512)),some (some (.ref 117)),some (some (.ref 252)),some (some (.ref 304)),some (some (.ref 409)),some (some (.ref 487))):=by kernel_rfl
def HH:=aA (aj (pT P))
def RW:=aA (aj (aj (aj (pT P))))
def mF:=aj (aj (aj (aj (aj (pT P)))))
theorem pU:(nsIn (KF P) mainGlobals (q "Builtin"),
 nsIn (KF P) mainGlobals (q "Environment"),
 nsIn (KF P) mainGlobals (q "S4Object"),
 nsIn (KF P) mainGlobals (q "MethodTable"),
 nsIn (KF P) mainGlobals (q "S4State"),
 nsIn (KF P) mainGlobals (q "Evaluator"))=
 (some (some (.ref 573)),some (some (.ref 595)),some (some (.ref 658)),some (some (.ref 843)),some (some (.ref 878)),some (some (.ref 1442))):=by kernel_rfl
theorem HI:(nsIn (KF P) mainGlobals (q "list"),
 nsIn (KF P) mainGlobals (q "len"),
 nsIn (KF P) mainGlobals (q "dict"),
 nsIn (KF P) mainGlobals (q "range"),
 nsIn (KF P) mainGlobals (q "isinstance"),
 nsIn (KF P) mainGlobals (q "sorted"))=
 (some none,some none,some none,some none,some none,some none):=by kernel_rfl
def nP:=aA (HI P)
def eO:=aA (aj (HI P))
def jf:=aA (aj (aj (aj (HI P))))
theorem BB:(keepIn (KF P) (.ref 28),
 keepIn (KF P) (.ref 33),
 keepIn (KF P) (.ref 40),
 keepIn (KF P) (.ref 45),
 keepIn (KF P) (.ref 52),
 keepIn (KF P) (.ref 59))=
 (true,true,true,true,true,true):=by kernel_rfl
theorem BC:(keepIn (KF P) (.ref 66),
 keepIn (KF P) (.ref 73),
 keepIn (KF P) (.ref 80),
 keepIn (KF P) (.ref 87),
 keepIn (KF P) (.ref 263),
 keepIn (KF P) (.ref 275))=
 (true,true,true,true,true,true):=by kernel_rfl
theorem qq:(keepIn (KF P) (.ref 281),
 keepIn (KF P) (.ref 287),
 keepIn (KF P) (.ref 315),
 keepIn (KF P) (.ref 322),
 keepIn (KF P) (.ref 329),
 keepIn (KF P) (.ref 420))=
 (true,true,true,true,true,true):=by kernel_rfl
theorem vQ:(keepIn (KF P) (.ref 427),
 keepIn (KF P) (.ref 434),
 keepIn (KF P) (.ref 441),
 keepIn (KF P) (.ref 676),
 keepIn (KF P) (.ref 683),
 keepIn (KF P) (.ref 690))=
 (true,true,true,true,true,true):=by kernel_rfl
theorem qr:(keepIn (KF P) (.ref 889),
 keepIn (KF P) (.ref 1042),
 keepIn (KF P) (.ref 1049),
 keepIn (KF P) (.ref 1056),
 keepIn (KF P) (.ref 1061),
 keepIn (KF P) (.ref 1068))=
 (true,true,true,true,true,true):=by kernel_rfl
theorem qs:(keepIn (KF P) (.ref 1075),
 keepIn (KF P) (.ref 1082),
 keepIn (KF P) (.ref 1089),
 keepIn (KF P) (.ref 1094),
 keepIn (KF P) (.ref 1108),
 keepIn (KF P) (.ref 1115))=
 (true,true,true,true,true,true):=by kernel_rfl
theorem vR:(keepIn (KF P) (.ref 1120),
 keepIn (KF P) (.ref 1127),
 keepIn (KF P) (.ref 1134),
 keepIn (KF P) (.ref 1139),
 keepIn (KF P) (.ref 718),
 keepIn (KF P) (.ref 1460))=
 (true,true,true,true,true,true):=by kernel_rfl
theorem qt:(keepIn (KF P) (.ref 1467),
 keepIn (KF P) (.ref 1474),
 keepIn (KF P) (.ref 1481),
 keepIn (KF P) (.ref 1488),
 keepIn (KF P) (.ref 1495),
 keepIn (KF P) (.ref 1502))=
 (true,true,true,true,true,true):=by kernel_rfl
theorem qu:(keepIn (KF P) (.ref 1512),
 gk (KF P) 252 209,
 gk (KF P) 304 301,
 gk (KF P) 409 343,
 gk (KF P) 487 477,
 gk (KF P) 573 570)=
 (true,true,true,true,true,true):=by kernel_rfl
def Ra:=aA (aj (qu P))
def Hg:=aA (aj (aj (qu P)))
def Q7:=aA (aj (aj (aj (qu P))))
def kK:=aA (aj (aj (aj (aj (qu P)))))
def Q6:=aj (aj (aj (aj (aj (qu P)))))
theorem vS:(gk (KF P) 595 592,
 gk (KF P) 658 655,
 gk (KF P) 843 786,
 gk (KF P) 878 875,
 gk (KF P) 1442 1251)=
 (true,true,true,true,true):=by kernel_rfl
def Q8:=aA (vS P)
def Rc:=aA (aj (vS P))
def Rb:=aA (aj (aj (vS P)))
def Rd:=aA (aj (aj (aj (vS P))))
def Q9:=aj (aj (aj (aj (vS P))))
theorem Bf:GL P "get_attr" 28:=⟨aA (Bc P),aA (BB P)⟩
theorem R0:GL P "names_of" 33:=⟨aA (aj (Bc P)),aA (aj (BB P))⟩
theorem HM:GL P "dim_of" 40:=⟨aA (aj (aj (Bc P))),aA (aj (aj (BB P)))⟩
theorem HJ:GL P "class_attr" 52:=⟨aA (aj (aj (aj (aj (Bc P))))),aA (aj (aj (aj (aj (BB P)))))⟩
theorem pX:GL P "shape_class" 66:=⟨aA (Bd P),aA (BC P)⟩
theorem vo:GL P "plain_class" 73:=⟨aA (aj (Bd P)),aA (aj (BC P))⟩
theorem HN:GL P "implicit_class" 80:=⟨aA (aj (aj (Bd P))),aA (aj (aj (BC P)))⟩
theorem HL:GL P "class_of" 87:=⟨aA (aj (aj (aj (Bd P)))),aA (aj (aj (aj (BC P))))⟩
theorem xdh:GL P "match_names" 281:=⟨aA (pP P),aA (qq P)⟩
theorem vp:GL P "take" 287:=⟨aA (aj (pP P)),aA (aj (qq P))⟩
theorem RX:GL P "data_kinds" 315:=⟨aA (aj (aj (pP P))),aA (aj (aj (qq P)))⟩
theorem xc4:GL P "basic_names" 322:=⟨aA (aj (aj (aj (pP P)))),aA (aj (aj (aj (qq P))))⟩
theorem xc5:GL P "basic_parents" 329:=⟨aA (aj (aj (aj (aj (pP P))))),aA (aj (aj (aj (aj (qq P)))))⟩
theorem xc8:GL P "check_slots" 420:=⟨aj (aj (aj (aj (aj (pP P))))),aj (aj (aj (aj (aj (qq P)))))⟩
theorem xdl:GL P "value_classes" 427:=⟨aA (vg P),aA (vQ P)⟩
theorem xda:GL P "class_supers" 434:=⟨aA (aj (vg P)),aA (aj (vQ P))⟩
theorem xdb:GL P "is_of" 441:=⟨aA (aj (aj (vg P))),aA (aj (aj (vQ P)))⟩
theorem xc6:GL P "character" 683:=⟨aA (aj (aj (aj (aj (vg P))))),aA (aj (aj (aj (aj (vQ P)))))⟩
theorem Be:GL P "flag" 690:=⟨aj (aj (aj (aj (aj (vg P))))),aj (aj (aj (aj (aj (vQ P)))))⟩
theorem pW:GL P "s4_state" 889:=⟨aA (pQ P),aA (qr P)⟩
theorem R1:GL P "quiet" 1042:=⟨aA (aj (pQ P)),aA (aj (qr P))⟩
theorem nQ:GL P "one_name" 1049:=⟨aA (aj (aj (pQ P))),aA (aj (aj (qr P)))⟩
theorem Bh:GL P "text_pairs" 1056:=⟨aA (aj (aj (aj (pQ P)))),aA (aj (aj (aj (qr P))))⟩
theorem xc9:GL P "class_parts" 1061:=⟨aA (aj (aj (aj (aj (pQ P))))),aA (aj (aj (aj (aj (qr P)))))⟩
theorem xdi:GL P "prototype_parts" 1068:=⟨aj (aj (aj (aj (aj (pQ P))))),aj (aj (aj (aj (aj (qr P)))))⟩
theorem xc7:GL P "check_prototype" 1075:=⟨aA (pR P),aA (qs P)⟩
theorem RY:GL P "generator" 1082:=⟨aA (aj (pR P)),aA (aj (qs P))⟩
theorem xc1:GL P "b_setClass" 1089:=⟨aA (aj (aj (pR P))),aA (aj (aj (qs P)))⟩
theorem xc2:GL P "b_setClassUnion" 1094:=⟨aA (aj (aj (aj (pR P)))),aA (aj (aj (aj (qs P))))⟩
theorem xdk:GL P "split_first" 1108:=⟨aA (aj (aj (aj (aj (pR P))))),aA (aj (aj (aj (aj (qs P)))))⟩
theorem xc0:GL P "b_isVirtualClass" 1115:=⟨aj (aj (aj (aj (aj (pR P))))),aj (aj (aj (aj (aj (qs P)))))⟩
theorem xcZ:GL P "b_is" 1120:=⟨aA (vh P),aA (vR P)⟩
theorem xcY:GL P "b_extends" 1127:=⟨aA (aj (vh P)),aA (aj (vR P))⟩
theorem xdj:GL P "slot_rows" 1134:=⟨aA (aj (aj (vh P))),aA (aj (aj (vR P)))⟩
theorem xc3:GL P "b_slotNames" 1139:=⟨aA (aj (aj (aj (vh P)))),aA (aj (aj (aj (vR P))))⟩
theorem xde:GL P "_law_pips" 1460:=⟨aj (aj (aj (aj (aj (vh P))))),aj (aj (aj (aj (aj (vR P)))))⟩
theorem Bg:GL P "_law_pip" 1467:=⟨aA (pS P),aA (qt P)⟩
theorem vm:GL P "_law_word" 1474:=⟨aA (aj (pS P)),aA (aj (qt P))⟩
theorem vi:GL P "_law_above" 1481:=⟨aA (aj (aj (pS P))),aA (aj (aj (qt P)))⟩
theorem RZ:GL P "_law_is_known" 1488:=⟨aA (aj (aj (aj (pS P)))),aA (aj (aj (aj (qt P))))⟩
theorem xdd:GL P "_law_due" 1495:=⟨aA (aj (aj (aj (aj (pS P))))),aA (aj (aj (aj (aj (qt P)))))⟩
theorem xdf:GL P "_law_set" 1502:=⟨aj (aj (aj (aj (aj (pS P))))),aj (aj (aj (aj (aj (qt P)))))⟩
theorem xdg:GL P "_law_slots_of" 1512:=⟨aA (pT P),aA (qu P)⟩
theorem tX:(fastBuiltinOwn "object" (q "attrs"),
 fastBuiltinOwn "object" (q "base"),
 fastBuiltinOwn "object" (q "classes"),
 fastBuiltinOwn "object" (q "contains"),
 fastBuiltinOwn "object" (q "current"),
 fastBuiltinOwn "object" (q "deparser"))=
 (none,none,none,none,none,none):=by kernel_rfl
def Am:=aA (tX)
def Uy:=aA (aj (tX))
def Gj:=aA (aj (aj (tX)))
def Uz:=aA (aj (aj (aj (tX))))
def xgD:=aA (aj (aj (aj (aj (tX)))))
def xgE:=aj (aj (aj (aj (aj (tX)))))
theorem tY:(fastBuiltinOwn "object" (q "dispatcher"),
 fastBuiltinOwn "object" (q "fn"),
 fastBuiltinOwn "object" (q "formals"),
 fastBuiltinOwn "object" (q "frame"),
 fastBuiltinOwn "object" (q "frames"),
 fastBuiltinOwn "object" (q "generics"))=
 (none,none,none,none,none,none):=by kernel_rfl
def xgF:=aA (tY)
def xgG:=aA (aj (tY))
def UA:=aA (aj (aj (tY)))
def xgH:=aA (aj (aj (aj (tY))))
def xgI:=aA (aj (aj (aj (aj (tY)))))
def xgJ:=aj (aj (aj (aj (aj (tY)))))
theorem tZ:(fastBuiltinOwn "object" (q "globals"),
 fastBuiltinOwn "object" (q "group"),
 fastBuiltinOwn "object" (q "handlers"),
 fastBuiltinOwn "object" (q "items"),
 fastBuiltinOwn "object" (q "kind"),
 fastBuiltinOwn "object" (q "limit"))=
 (none,none,none,none,none,none):=by kernel_rfl
def UB:=aA (tZ)
def xgK:=aA (aj (tZ))
def xgL:=aA (aj (aj (tZ)))
def UC:=aA (aj (aj (aj (tZ))))
def ub:=aA (aj (aj (aj (aj (tZ)))))
def xgM:=aj (aj (aj (aj (aj (tZ)))))
theorem Ak:(fastBuiltinOwn "object" (q "locked"),
 fastBuiltinOwn "object" (q "locks"),
 fastBuiltinOwn "object" (q "loose"),
 fastBuiltinOwn "object" (q "message"),
 fastBuiltinOwn "object" (q "methods"),
 fastBuiltinOwn "object" (q "most_frames"))=
 (none,none,none,none,none,none):=by kernel_rfl
def xgN:=aA (Ak)
def xgO:=aA (aj (Ak))
def xgP:=aA (aj (aj (Ak)))
def xgQ:=aA (aj (aj (aj (aj (Ak)))))
def xgR:=aj (aj (aj (aj (aj (Ak)))))
theorem t5:(fastBuiltinOwn "object" (q "name"),
 fastBuiltinOwn "object" (q "next_number"),
 fastBuiltinOwn "object" (q "number"),
 fastBuiltinOwn "object" (q "older"),
 fastBuiltinOwn "object" (q "out"),
 fastBuiltinOwn "object" (q "parent"))=
 (none,none,none,none,none,none):=by kernel_rfl
def An:=aA (t5)
def UD:=aA (aj (t5))
def xgS:=aA (aj (aj (t5)))
def xgT:=aA (aj (aj (aj (t5))))
def xgU:=aA (aj (aj (aj (aj (t5)))))
def xgV:=aj (aj (aj (aj (aj (t5)))))
theorem t6:(fastBuiltinOwn "object" (q "places"),
 fastBuiltinOwn "object" (q "prototype"),
 fastBuiltinOwn "object" (q "restarts"),
 fastBuiltinOwn "object" (q "s4"),
 fastBuiltinOwn "object" (q "shared"),
 fastBuiltinOwn "object" (q "signaller"))=
 (none,none,none,none,none,none):=by kernel_rfl
def UE:=aA (t6)
def UF:=aA (aj (t6))
def xgW:=aA (aj (aj (t6)))
def UG:=aA (aj (aj (aj (t6))))
def xgX:=aA (aj (aj (aj (aj (t6)))))
def xgY:=aj (aj (aj (aj (aj (t6)))))
theorem t7:(fastBuiltinOwn "object" (q "slots"),
 fastBuiltinOwn "object" (q "special"),
 fastBuiltinOwn "object" (q "steps"),
 fastBuiltinOwn "object" (q "tags"),
 fastBuiltinOwn "object" (q "targets"),
 fastBuiltinOwn "object" (q "unions"))=
 (none,none,none,none,none,none):=by kernel_rfl
def OV:=aA (t7)
def xgZ:=aA (aj (t7))
def xg0:=aA (aj (aj (t7)))
def UH:=aA (aj (aj (aj (t7))))
def xg1:=aA (aj (aj (aj (aj (t7)))))
def UI:=aj (aj (aj (aj (aj (t7)))))
theorem t8:(fastBuiltinOwn "object" (q "used"),
 fastBuiltinOwn "object" (q "validity"),
 fastBuiltinOwn "object" (q "virtual"),
 fastBuiltinOwn "object" (q "visible"),
 fastBuiltinOwn "object" (q "warner"),
 fastBuiltinOwn "object" (q "warnings"))=
 (none,none,none,none,none,none):=by kernel_rfl
def UJ:=aA (t8)
def xg2:=aA (aj (t8))
def UK:=aA (aj (aj (t8)))
def UL:=aA (aj (aj (aj (t8))))
def xg3:=aA (aj (aj (aj (aj (t8)))))
def xg4:=aj (aj (aj (aj (aj (t8)))))
theorem pB:(gP (KF P) 252,
 plainGet (KF P) 252 (q ""),
 (findIn (KF P) (.ref 252) "__setattr__"==some (some (.builtin "object.__setattr__"))&&plainOver (KF P) 252),
 gP (KF P) 304,
 plainGet (KF P) 304 (q ""),
 (findIn (KF P) (.ref 304) "__setattr__"==some (some (.builtin "object.__setattr__"))&&plainOver (KF P) 304))=
 (some ([.ref 252,.type "object"],251,true),true,true,some ([.ref 304,.type "object"],303,true),true,true):=by kernel_rfl
def iT:=aA (pB P)
def lh:=aA (aj (pB P))
def GD:=aA (aj (aj (pB P)))
def jQ:=aA (aj (aj (aj (pB P))))
def Ao:=aA (aj (aj (aj (aj (pB P)))))
def uD:=aj (aj (aj (aj (aj (pB P)))))
theorem pC:(gP (KF P) 409,
 plainGet (KF P) 409 (q ""),
 (findIn (KF P) (.ref 409) "__setattr__"==some (some (.builtin "object.__setattr__"))&&plainOver (KF P) 409),
 gP (KF P) 487,
 plainGet (KF P) 487 (q ""),
 (findIn (KF P) (.ref 487) "__setattr__"==some (some (.builtin "object.__setattr__"))&&plainOver (KF P) 487))=
 (some ([.ref 409,.type "object"],408,true),true,true,some ([.ref 487,.type "object"],486,true),true,true):=by kernel_rfl
def jd:=aA (pC P)
def kl:=aA (aj (pC P))
def Vw:=aA (aj (aj (pC P)))
def my:=aA (aj (aj (aj (pC P))))
def OY:=aA (aj (aj (aj (aj (pC P)))))
def Ax:=aj (aj (aj (aj (aj (pC P)))))
theorem A0:(gP (KF P) 573,
 plainGet (KF P) 573 (q ""),
 (findIn (KF P) (.ref 573) "__setattr__"==some (some (.builtin "object.__setattr__"))&&plainOver (KF P) 573),
 gP (KF P) 595,
 plainGet (KF P) 595 (q ""),
 (findIn (KF P) (.ref 595) "__setattr__"==some (some (.builtin "object.__setattr__"))&&plainOver (KF P) 595))=
 (some ([.ref 573,.type "object"],572,true),true,true,some ([.ref 595,.type "object"],594,true),true,true):=by kernel_rfl
def pE:=aA (A0 P)
def uC:=aA (aj (aj (A0 P)))
def nG:=aA (aj (aj (aj (A0 P))))
def oY:=aj (aj (aj (aj (aj (A0 P)))))
theorem uY:(gP (KF P) 658,
 plainGet (KF P) 658 (q ""),
 (findIn (KF P) (.ref 658) "__setattr__"==some (some (.builtin "object.__setattr__"))&&plainOver (KF P) 658),
 gP (KF P) 843,
 plainGet (KF P) 843 (q ""),
 (findIn (KF P) (.ref 843) "__setattr__"==some (some (.builtin "object.__setattr__"))&&plainOver (KF P) 843))=
 (some ([.ref 658,.type "object"],657,true),true,true,some ([.ref 843,.type "object"],842,true),true,true):=by kernel_rfl
def pF:=aA (uY P)
def UM:=aA (aj (uY P))
def GF:=aA (aj (aj (uY P)))
theorem pD:(gP (KF P) 878,
 plainGet (KF P) 878 (q ""),
 (findIn (KF P) (.ref 878) "__setattr__"==some (some (.builtin "object.__setattr__"))&&plainOver (KF P) 878),
 gP (KF P) 1442,
 plainGet (KF P) 1442 (q ""),
 (findIn (KF P) (.ref 1442) "__setattr__"==some (some (.builtin "object.__setattr__"))&&plainOver (KF P) 1442))=
 (some ([.ref 878,.type "object"],877,true),true,true,some ([.ref 1442,.type "object"],1441,true),true,true):=by kernel_rfl
def A1:=aA (pD P)
def Pr:=aA (aj (aj (pD P)))
def eM:=aA (aj (aj (aj (pD P))))
def ue:=aA (aj (aj (aj (aj (pD P)))))
def f7:=aj (aj (aj (aj (aj (pD P)))))
theorem qy:(nsIn (KF P) 251 (q "formals"),
 nsIn (KF P) 251 (q "tags"),
 nsIn (KF P) 251 (q "used"),
 nsIn (KF P) 251 (q "places"),
 nsIn (KF P) 251 (q "exact"),
 (isFn (KF P) (.ref 216)&&keepIn (KF P) (.ref 216)))=
 (some none,some none,some none,some none,some (some (.ref 216)),true):=by kernel_rfl
def Ti:=aA (qy P)
def Tk:=aA (aj (qy P))
def Tl:=aA (aj (aj (qy P)))
def Tj:=aA (aj (aj (aj (qy P))))
theorem qz:(nsIn (KF P) 251 (q "partial"),
 (isFn (KF P) (.ref 223)&&keepIn (KF P) (.ref 223)),
 nsIn (KF P) 251 (q "partial_of"),
 (isFn (KF P) (.ref 230)&&keepIn (KF P) (.ref 230)),
 nsIn (KF P) 251 (q "positional"),
 (isFn (KF P) (.ref 237)&&keepIn (KF P) (.ref 237)))=
 (some (some (.ref 223)),true,some (some (.ref 230)),true,some (some (.ref 237)),true):=by kernel_rfl
theorem qE:(nsIn (KF P) 251 (q "is_free"),
 (isFn (KF P) (.ref 244)&&keepIn (KF P) (.ref 244)),
 nsIn (KF P) 251 (q "rest"),
 (isFn (KF P) (.ref 249)&&keepIn (KF P) (.ref 249)),
 nsIn (KF P) 303 (q "name"),
 nsIn (KF P) 303 (q "slots"))=
 (some (some (.ref 244)),true,some (some (.ref 249)),true,some none,some none):=by kernel_rfl
def To:=aA (aj (aj (aj (aj (qE P)))))
def Tq:=aj (aj (aj (aj (aj (qE P)))))
theorem qF:(nsIn (KF P) 303 (q "contains"),
 nsIn (KF P) 303 (q "validity"),
 nsIn (KF P) 303 (q "virtual"),
 nsIn (KF P) 303 (q "prototype"),
 nsIn (KF P) 408 (q "classes"),
 nsIn (KF P) 408 (q "unions"))=
 (some none,some none,some none,some none,some none,some none):=by kernel_rfl
def Tn:=aA (qF P)
def Tr:=aA (aj (aj (qF P)))
def Tp:=aA (aj (aj (aj (qF P))))
def Tb:=aA (aj (aj (aj (aj (qF P)))))
def Tc:=aj (aj (aj (aj (aj (qF P)))))
theorem qG:(nsIn (KF P) 408 (q "define"),
 (isFn (KF P) (.ref 350)&&keepIn (KF P) (.ref 350)),
 nsIn (KF P) 408 (q "set_union"),
 (isFn (KF P) (.ref 357)&&keepIn (KF P) (.ref 357)),
 nsIn (KF P) 408 (q "get"),
 (isFn (KF P) (.ref 364)&&keepIn (KF P) (.ref 364)))=
 (some (some (.ref 350)),true,some (some (.ref 357)),true,some (some (.ref 364)),true):=by kernel_rfl
theorem qH:(nsIn (KF P) 408 (q "basic"),
 (isFn (KF P) (.ref 371)&&keepIn (KF P) (.ref 371)),
 nsIn (KF P) 408 (q "known"),
 (isFn (KF P) (.ref 378)&&keepIn (KF P) (.ref 378)),
 nsIn (KF P) 408 (q "parents"),
 (isFn (KF P) (.ref 385)&&keepIn (KF P) (.ref 385)))=
 (some (some (.ref 371)),true,some (some (.ref 378)),true,some (some (.ref 385)),true):=by kernel_rfl
theorem qI:(nsIn (KF P) 408 (q "supers"),
 (isFn (KF P) (.ref 392)&&keepIn (KF P) (.ref 392)),
 nsIn (KF P) 408 (q "distance"),
 (isFn (KF P) (.ref 399)&&keepIn (KF P) (.ref 399)),
 nsIn (KF P) 408 (q "slots_of"),
 (isFn (KF P) (.ref 406)&&keepIn (KF P) (.ref 406)))=
 (some (some (.ref 392)),true,some (some (.ref 399)),true,some (some (.ref 406)),true):=by kernel_rfl
theorem qJ:(nsIn (KF P) 486 (q "kind"),
 nsIn (KF P) 486 (q "items"),
 nsIn (KF P) 486 (q "attrs"),
 nsIn (KF P) 486 (q "shared"),
 nsIn (KF P) 486 (q "loose"),
 nsIn (KF P) 572 (q "kind"))=
 (some none,some none,some none,some none,some none,some none):=by kernel_rfl
def Tz:=aA (qJ P)
def Tx:=aA (aj (qJ P))
def Tw:=aA (aj (aj (qJ P)))
theorem qK:(nsIn (KF P) 572 (q "name"),
 nsIn (KF P) 572 (q "special"),
 nsIn (KF P) 572 (q "fn"),
 nsIn (KF P) 572 (q "group"),
 nsIn (KF P) 572 (q "attrs"),
 nsIn (KF P) 594 (q "kind"))=
 (some none,some none,some none,some none,some none,some none):=by kernel_rfl
theorem qL:(nsIn (KF P) 594 (q "number"),
 nsIn (KF P) 594 (q "parent"),
 nsIn (KF P) 594 (q "attrs"),
 nsIn (KF P) 594 (q "frame"),
 nsIn (KF P) 594 (q "locked"),
 nsIn (KF P) 594 (q "locks"))=
 (some none,some none,some none,some none,some none,some none):=by kernel_rfl
theorem qA:(nsIn (KF P) 657 (q "kind"),
 nsIn (KF P) 657 (q "name"),
 nsIn (KF P) 657 (q "slots"),
 nsIn (KF P) 657 (q "attrs"),
 nsIn (KF P) 842 (q "generics"),
 nsIn (KF P) 877 (q "classes"))=
 (some none,some none,some none,some none,some none,some none):=by kernel_rfl
def Ts:=aA (qA P)
def Tt:=aA (aj (qA P))
def Tv:=aj (aj (aj (aj (aj (qA P)))))
theorem qB:(nsIn (KF P) 877 (q "methods"),
 nsIn (KF P) 877 (q "older"),
 nsIn (KF P) 1441 (q "limit"),
 nsIn (KF P) 1441 (q "most_frames"),
 nsIn (KF P) 1441 (q "steps"),
 nsIn (KF P) 1441 (q "next_number"))=
 (some none,some none,some none,some none,some none,some none):=by kernel_rfl
def Tf:=aj (aj (aj (aj (aj (qB P)))))
theorem qC:(nsIn (KF P) 1441 (q "base"),
 nsIn (KF P) 1441 (q "globals"),
 nsIn (KF P) 1441 (q "frames"),
 nsIn (KF P) 1441 (q "out"),
 nsIn (KF P) 1441 (q "warnings"),
 nsIn (KF P) 1441 (q "handlers"))=
 (some none,some none,some none,some none,some none,some none):=by kernel_rfl
def Td:=aA (qC P)
def Te:=aA (aj (qC P))
theorem qD:(nsIn (KF P) 1441 (q "restarts"),
 nsIn (KF P) 1441 (q "targets"),
 nsIn (KF P) 1441 (q "visible"),
 nsIn (KF P) 1441 (q "current"),
 nsIn (KF P) 1441 (q "dispatcher"),
 nsIn (KF P) 1441 (q "signaller"))=
 (some none,some none,some none,some none,some none,some none):=by kernel_rfl
def Th:=aA (aj (aj (qD P)))
theorem we:(nsIn (KF P) 1441 (q "warner"),
 nsIn (KF P) 1441 (q "deparser"),
 nsIn (KF P) 1441 (q "s4"),
 nsIn (KF P) 1441 (q "new_env"),
 (isFn (KF P) (.ref 1258)&&keepIn (KF P) (.ref 1258)))=
 (some none,some none,some none,some (some (.ref 1258)),true):=by kernel_rfl
def Tg:=aA (aj (aj (we P)))
def HD:=fB (iT P) (lh P) (Ti P) UA
def kR:=fB (iT P) (lh P) (Tk P) UH
def nN:=fB (iT P) (lh P) (Tl P) UJ
def pN:=fB (iT P) (lh P) (Tj P) UE
def nO:=fB (jQ P) (Ao P) (To P) An
def RU:=fB (jQ P) (Ao P) (Tq P) OV
def HE:=fB (jQ P) (Ao P) (Tn P) Uz
def lD:=fB (jd P) (kl P) (Tb P) Gj
def HB:=fB (jd P) (kl P) (Tc P) UI
def S6:=ij (jd P) (kl P) ⟨aA (aj (aj (aj (aj (qG P))))),aj (aj (aj (aj (aj (qG P)))))⟩
def SY:=ij (jd P) (kl P) ⟨aA (qH P),aA (aj (qH P))⟩
def S7:=ij (jd P) (kl P) ⟨aA (aj (aj (qH P))),aA (aj (aj (aj (qH P))))⟩
def Jp:=ij (jd P) (kl P) ⟨aA (qI P),aA (aj (qI P))⟩
def BO:=ij (jd P) (kl P) ⟨aA (aj (aj (qI P))),aA (aj (aj (aj (qI P))))⟩
def Jo:=ij (jd P) (kl P) ⟨aA (aj (aj (aj (aj (qI P))))),aj (aj (aj (aj (aj (qI P)))))⟩
def eC:=fB (my P) (OY P) (Tz P) ub
def Vn:=bU (my P) (Ax P) (Tz P) ub
def ju:=fB (my P) (OY P) (Tx P) UC
def Vm:=bU (my P) (Ax P) (Tx P) UC
def vf:=fB (my P) (OY P) (Tw P) Am
def Vl:=bU (my P) (Ax P) (Tw P) Am
def Vp:=bU (my P) (Ax P) (aA (aj (aj (aj (qJ P))))) xgX
def Vo:=bU (my P) (Ax P) (aA (aj (aj (aj (aj (qJ P)))))) xgP
def pO:=fB (A1 P) (aA (aj (pD P))) (Tv P) Gj
def RT:=fB (eM P) (ue P) (Tf P) UD
def Vj:=bU (eM P) (f7 P) (Tf P) UD
def HC:=fB (eM P) (ue P) (Te P) UB
def Pn:=bU (eM P) (f7 P) (Th P) UL
def Bb:=fB (eM P) (ue P) (Tg P) UG
def Vk:=bU (eM P) (f7 P) (Tg P) UG
def S8:=ij (eM P) (ue P) ⟨aA (aj (aj (aj (we P)))),aj (aj (aj (aj (we P))))⟩
noncomputable def XH:List Stmt:=bt (sA 28)
noncomputable def Zq:Scope:=bg (sA 28)
noncomputable abbrev xa1(L:Addr):Env:=envX (q "data_kinds") Zq L 315 (.ref 314) []
theorem xb6:EN 315 [] XH xa1 []:=bM (sA 28) "data_kinds" 314 (.str (q "vectorcove.s4classes") 549)
noncomputable def XI:List Stmt:=bt (sA 29)
noncomputable def Zr:Scope:=bg (sA 29)
noncomputable abbrev xa2(L:Addr):Env:=envX (q "basic_names") Zr L 322 (.ref 321) []
theorem xb7:EN 322 [] XI xa2 []:=bM (sA 29) "basic_names" 321 (.str (q "vectorcove.s4classes") 549)
noncomputable def XJ:List Stmt:=bt (sA 30)
noncomputable def Zs:Scope:=bg (sA 30)
noncomputable abbrev xa3(L:Addr):Env:=envX (q "basic_parents") Zs L 329 (.ref 328) []
theorem xb8:EN 329 [v0] XJ xa3 [(q "name",v0)]:=bM (sA 30) "basic_parents" 328 (.str (q "vectorcove.s4classes") 549)
noncomputable def XS:List Stmt:=bt (cA 31 4)
noncomputable def Zy:Scope:=bg (cA 31 4)
noncomputable abbrev xa9(L:Addr):Env:=envX (q "ClassTable.basic") Zy L 371 (.ref 370) []
theorem xcd:EN 371 [v0,v1] XS xa9 [(q "name",v1),(q "self",v0)]:=bM (cA 31 4) "ClassTable.basic" 370 (.str (q "vectorcove.s4classes") 549)
noncomputable def XT:List Stmt:=bt (cA 31 5)
noncomputable def Zz:Scope:=bg (cA 31 5)
noncomputable abbrev xba(L:Addr):Env:=envX (q "ClassTable.known") Zz L 378 (.ref 377) []
theorem xce:EN 378 [v0,v1] XT xba [(q "name",v1),(q "self",v0)]:=bM (cA 31 5) "ClassTable.known" 377 (.str (q "vectorcove.s4classes") 549)
noncomputable def Qt:List Stmt:=bt (cA 31 6)
noncomputable def ZA:Scope:=bg (cA 31 6)
noncomputable abbrev Rr(L:Addr):Env:=envX (q "ClassTable.parents") ZA L 385 (.ref 384) []
theorem xcf:EN 385 [v0,v1] Qt Rr [(q "name",v1),(q "self",v0)]:=bM (cA 31 6) "ClassTable.parents" 384 (.str (q "vectorcove.s4classes") 549)
noncomputable def XU:List Stmt:=bt (cA 31 7)
noncomputable def ZB:Scope:=bg (cA 31 7)
noncomputable abbrev xbb(L:Addr):Env:=envX (q "ClassTable.supers") ZB L 392 (.ref 391) []
theorem xcg:EN 392 [v0,v1] XU xbb [(q "name",v1),(q "self",v0)]:=bM (cA 31 7) "ClassTable.supers" 391 (.str (q "vectorcove.s4classes") 549)
noncomputable def XV:List Stmt:=bt (cA 31 8)
noncomputable def ZC:Scope:=bg (cA 31 8)
noncomputable abbrev xbc(L:Addr):Env:=envX (q "ClassTable.distance") ZC L 399 (.ref 398) []
theorem xch:EN 399 [v0,v1,v2] XV xbc [(q "super_name",v2),(q "sub",v1),(q "self",v0)]:=bM (cA 31 8) "ClassTable.distance" 398 (.str (q "vectorcove.s4classes") 549)
section
noncomputable def nI:List Str:=[q "logical",q "integer",q "double",q "numeric",q "character",q "list",q "expression",q "function"]
noncomputable def nC:List Str:=[q "logical",q "integer",q "double",q "numeric",q "character",q "list",q "expression",q "function",q "NULL",q "ANY",q "missing",q "vector",q "matrix",q "array",q "environment",q "language",q "name",q "call",q "{",q "if",q "for",q "while",q "(",q "<-",q "=",q "formula",q "factor",q "data.frame",q "oldClass",q "pairlist"]
noncomputable def iR(x:Str):List Str:=
 if (x==q "integer")=true then [q "numeric"] else if (x==q "double")=true then [q "numeric"]
 else if ([q "logical",q "numeric",q "character",q "list",q "expression",q "array"].any (·==x))=true then [q "vector"]
 else if (x==q "matrix")=true then [q "array"]
 else if (x==q "factor")=true then [q "integer",q "oldClass"]
 else if (x==q "data.frame")=true then [q "list",q "oldClass"]
 else if (x==q "formula")=true then [q "oldClass"]
 else if ([q "name",q "call",q "{",q "if",q "for",q "while",q "(",q "<-",q "="].any (·==x))=true then [q "language"] else []
theorem VD(C:Cx gx aH A ae aE az L (dp+1) (un+3))(S:St ai ae L s l aa)(ret:∀t (vs:List Value) s',St ai ae L s' l ((t,({cls:= .type "tuple",data:= .seq vs.toArray 0}:Obj))::aa)→StrsAre vs nI→(∀p∈aa,p.1<t)→vs.length=8→R (.ok (.ret (.ref t))) s'):
  codeAny (model af gx.gw) A (.call (.ref 315) ⟨[],[]⟩) R s:=by
 refine xb6 C S (fun g L1 s C S=>bo ?_)
 intro Kz Ez
 refine ec ?_
 intro Kz
 refine wpAny_Return_some ?_
 exists Tuple_<|be S (fun tq s S=>be S (fun tq s S=>be S (fun tq s S=>be S (fun tq s S=>be S (fun tq s S=>be S (fun tq s S=>be S (fun tq s S=>cz S (fun tq s S=>?_))))))))
 refine ea S aG (fun x1 s S eA=>aT S (fun S=>?_))
 exact ret x1 _ s S (.cons _ _ (.cons _ _ (.cons _ _ (.cons _ _ (.cons _ _ (.cons _ _ (.cons _ _ (.cons _ _ .nil)))))))) eA rfl
theorem mh{vs ws:List Value}{xs ys:List Str}(h:StrsAre vs xs)(k:StrsAre ws ys):StrsAre (vs++ws) (xs++ys):=by
 induction h with
 |nil=>exact k
 |cons y t r ih=>exact .cons _ _ ih
theorem xiM(C:Cx gx aH A ae aE az L (dp+2) (un+6))(S:St ai ae L s l aa)(ret:∀t (vs:List Value) s',St ai ae L s' l ((t,({cls:= .type "tuple",data:= .seq vs.toArray 0}:Obj))::aa)→StrsAre vs nC→(∀p∈aa,p.1<t)→R (.ok (.ret (.ref t))) s'):
  codeAny (model af gx.gw) A (.call (.ref 322) ⟨[],[]⟩) R s:=by
 refine xb7 C S (fun g L1 s C S=>bo ?_)
 intro Kz Ez
 refine ec ?_
 intro Kz
 refine wpAny_Return_some ?_
 exists wpAny_BinOp ?_
 refine O6 C S (RX _)<|VD C S (fun x1 vx1 s S I5 eA Jy=>?_)
 exists Tuple_<|be S (fun tq s S=>be S (fun tq s S=>be S (fun tq s S=>be S (fun tq s S=>be S (fun tq s S=>be S (fun tq s S=>be S (fun tq s S=>be S (fun tq s S=>be S (fun tq s S=>be S (fun tq s S=>be S (fun tq s S=>be S (fun tq s S=>be S (fun tq s S=>be S (fun tq s S=>be S (fun tq s S=>be S (fun tq s S=>be S (fun tq s S=>be S (fun tq s S=>be S (fun tq s S=>be S (fun tq s S=>be S (fun tq s S=>cz S (fun tq s S=>?_))))))))))))))))))))))
 refine ea S aG (fun x2 s S dE=>?_)
 refine xhp S (St.tup S (mT mH)) (St.tup S mH) (fun e=>by rw[e] at Jy;cases Jy) (fun e=>nomatch e) (by rw[Jy];exact Nat.le_of_ble_eq_true rfl) (fun x3 s S fj=>?_)
 refine aT S (fun S=>?_)
 exact ret x3 _ s (S.sub (.cons_cons _ (.cons _ (.cons _ (List.Sublist.refl _))))) (mh I5 (.cons _ _ (.cons _ _ (.cons _ _ (.cons _ _ (.cons _ _ (.cons _ _ (.cons _ _ (.cons _ _ (.cons _ _ (.cons _ _ (.cons _ _ (.cons _ _ (.cons _ _ (.cons _ _ (.cons _ _ (.cons _ _ (.cons _ _ (.cons _ _ (.cons _ _ (.cons _ _ (.cons _ _ (.cons _ _ .nil))))))))))))))))))))))) (fun p hp=>fj p (.tail _ (.tail _ hp)))
theorem xiN{tk:Tok}(C:Cx gx aH A ae aE az L (dp+1) (un+3))(S:St ai ae L s l aa)(ret:∀t vs s',St ai ae L s' l ((t,listOf vs 0)::aa)→StrsAre vs.toList (iR x)→(∀p∈aa,p.1<t)→R (.ok (.ret (.ref t))) s'):
  codeAny (model af gx.gw) A (.call (.ref 329) ⟨[.str x tk],[]⟩) R s:=by
 refine xb8 C S (fun g L1 s C S=>bo ?_)
 intro Kz Ez
 refine ec ?_
 intro Kz
 refine wpAny_If ?_
 exists isTrue_or ?_
 refine wpAny_isTrue_Compare1 ?_
 exists ap S ah<|bZ S (fun tq s S=>mY (fun c0=>?_) (fun c0=>?_))
 ·exists er ?_
  refine ec ?_
  intro Kz
  refine wpAny_Return_some ?_
  exists List_<|cz S (fun tq s S=>?_)
  refine dm S aG (fun x1 s S eA=>aT S (fun S=>?_))
  exact ret x1 _ s S (by unfold iR;rw[if_pos c0];exact(.cons _ _ .nil)) eA
 exists isTrue_or ?_
 refine wpAny_isTrue_Compare1 ?_
 exists ap S ah<|bZ S (fun tq s S=>mY (fun c1=>?_) (fun c1=>?_))
 ·exists er ?_
  refine ec ?_
  intro Kz
  refine wpAny_Return_some ?_
  exists List_<|cz S (fun tq s S=>?_)
  refine dm S aG (fun x1 s S eA=>aT S (fun S=>?_))
  exact ret x1 _ s S (by unfold iR;rw[if_neg (cO c0),if_pos c1];exact(.cons _ _ .nil)) eA
 exists isTrue_or_nil<|cJ ?_
 refine wpAny_execs_nil<|ec ?_
 intro Kz
 refine br ?_
 exists ap S ah<|Tuple_<|be S (fun tq s S=>be S (fun tq s S=>be S (fun tq s S=>be S (fun tq s S=>be S (fun tq s S=>cz S (fun tq s S=>?_))))))
 refine ea S aG (fun x1 s S eA=>?_)
 exists in_tuple_strs (St.tup S mH) (.cons _ _ (.cons _ _ (.cons _ _ (.cons _ _ (.cons _ _ (.cons _ _ .nil)))))) ?_
 replace S:=St.drop S
 exists bV (fun c2=>?_) (fun c2=>?_)
 ·refine ec ?_
  intro Kz
  refine wpAny_Return_some ?_
  exists List_<|cz S (fun tq s S=>?_)
  refine dm S aG (fun x2 s S dE=>aT S (fun S=>?_))
  exact ret x2 _ s S (by unfold iR;rw[if_neg (cO c0),if_neg (cO c1),if_pos c2];exact(.cons _ _ .nil)) dE
 refine wpAny_execs_nil<|ec ?_
 intro Kz
 refine br ?_
 exists ap S ah<|bZ S (fun tq s S=>mY (fun c3=>?_) (fun c3=>?_))
 ·refine ec ?_
  intro Kz
  refine wpAny_Return_some ?_
  exists List_<|cz S (fun tq s S=>?_)
  refine dm S aG (fun x2 s S dE=>aT S (fun S=>?_))
  exact ret x2 _ s S (by unfold iR;rw[if_neg (cO c0),if_neg (cO c1),if_neg (cO c2),if_pos c3];exact(.cons _ _ .nil)) dE
 refine wpAny_execs_nil<|ec ?_
 intro Kz
 refine br ?_
 exists ap S ah<|bZ S (fun tq s S=>mY (fun c4=>?_) (fun c4=>?_))
 ·refine ec ?_
  intro Kz
  refine wpAny_Return_some ?_
  exists List_<|be S (fun tq s S=>cz S (fun tq s S=>?_))
  refine dm S aG (fun x2 s S dE=>aT S (fun S=>?_))
  exact ret x2 _ s S (by unfold iR;rw[if_neg (cO c0),if_neg (cO c1),if_neg (cO c2),if_neg (cO c3),if_pos c4];exact(.cons _ _ (.cons _ _ .nil))) dE
 refine wpAny_execs_nil<|ec ?_
 intro Kz
 refine br ?_
 exists ap S ah<|bZ S (fun tq s S=>mY (fun c5=>?_) (fun c5=>?_))
 ·refine ec ?_
  intro Kz
  refine wpAny_Return_some ?_
  exists List_<|be S (fun tq s S=>cz S (fun tq s S=>?_))
  refine dm S aG (fun x2 s S dE=>aT S (fun S=>?_))
  exact ret x2 _ s S (by unfold iR;rw[if_neg (cO c0),if_neg (cO c1),if_neg (cO c2),if_neg (cO c3),if_neg (cO c4),if_pos c5];exact(.cons _ _ (.cons _ _ .nil))) dE
 refine wpAny_execs_nil<|ec ?_
 intro Kz
 refine br ?_
 exists ap S ah<|bZ S (fun tq s S=>mY (fun c6=>?_) (fun c6=>?_))
 ·refine ec ?_
  intro Kz
  refine wpAny_Return_some ?_
  exists List_<|cz S (fun tq s S=>?_)
  refine dm S aG (fun x2 s S dE=>aT S (fun S=>?_))
  exact ret x2 _ s S (by unfold iR;rw[if_neg (cO c0),if_neg (cO c1),if_neg (cO c2),if_neg (cO c3),if_neg (cO c4),if_neg (cO c5),if_pos c6];exact(.cons _ _ .nil)) dE
 refine wpAny_execs_nil<|ec ?_
 intro Kz
 refine br ?_
 exists ap S ah<|Tuple_<|be S (fun tq s S=>be S (fun tq s S=>be S (fun tq s S=>be S (fun tq s S=>be S (fun tq s S=>be S (fun tq s S=>be S (fun tq s S=>be S (fun tq s S=>cz S (fun tq s S=>?_)))))))))
 refine ea S aG (fun x2 s S dE=>?_)
 exists in_tuple_strs (St.tup S mH) (.cons _ _ (.cons _ _ (.cons _ _ (.cons _ _ (.cons _ _ (.cons _ _ (.cons _ _ (.cons _ _ (.cons _ _ .nil))))))))) ?_
 replace S:=St.drop S
 exists bV (fun c7=>?_) (fun c7=>?_)
 ·refine ec ?_
  intro Kz
  refine wpAny_Return_some ?_
  exists List_<|cz S (fun tq s S=>?_)
  refine dm S aG (fun x3 s S fj=>aT S (fun S=>?_))
  exact ret x3 _ s S (by unfold iR;rw[if_neg (cO c0),if_neg (cO c1),if_neg (cO c2),if_neg (cO c3),if_neg (cO c4),if_neg (cO c5),if_neg (cO c6),if_pos c7];exact(.cons _ _ .nil)) fj
 refine wpAny_execs_nil<|ec ?_
 intro Kz
 refine wpAny_Return_some ?_
 exists List_ ?_
 refine cF S aG (fun x3 s S fj=>aT S (fun S=>?_))
 exact ret x3 _ s S (by unfold iR;rw[if_neg (cO c0),if_neg (cO c1),if_neg (cO c2),if_neg (cO c3),if_neg (cO c4),if_neg (cO c5),if_neg (cO c6),if_neg (cO c7)];exact .nil) fj
theorem VF{tk:Tok}(C:Cx gx aH A ae aE az L (dp+3) (un+9))(S:St ai ae L s l aa)(ret:∀s',St ai ae L s' l aa→R (.ok (.ret (.bool (nC.any (·==x))))) s'):
  codeAny (model af gx.gw) A (.call (.ref 371) ⟨[v,.str x tk],[]⟩) R s:=by
 refine xcd C S (fun g L1 s C S=>bo ?_)
 intro Kz Ez
 refine ec ?_
 intro Kz
 refine wpAny_Return_some<|wpAny_Compare1 ?_
 exists ap S ah ?_
 refine O6 C S (xc4 _)<|xiM C S (fun x1 vx1 s S I5 eA=>?_)
 exists in_tuple_strs (St.tup S mH) I5 ?_
 replace S:=St.drop S
 refine aT S (fun S=>?_)
 exact ret s S
end
noncomputable def aM{β:Type}(cs:List (Str×β))(x:Str):Option β:=(cs.find? fun kv=>kv.1=x).map (·.2)
noncomputable def bT{β:Type}(cs:List (Str×β))(x:Str)(v:β):List (Str×β):=if cs.any (fun kv=>kv.1=x) then cs.map (fun kv=>if kv.1=x then (kv.1,v) else kv) else cs++[(x,v)]
inductive Al{β:Type}(P:Str→β→Value→Prop):List (Str×Value)→List (Str×β)→Prop
 |nil:Al P [] []
 |cons {x b v r r'}:P x b v→Al P r r'→Al P ((x,v)::r) ((x,b)::r')
section
variable {β:Type} {P P':Str→β→Value→Prop} {aD:List (Str×Value)} {cs:List (Str×β)}
theorem Al.mono(h:Al P aD cs)(hp:∀x b v,P x b v→P' x b v):Al P' aD cs:=by
 induction h with
 |nil=>exact .nil
 |cons a _ ih=>exact .cons (hp _ _ _ a) ih
theorem Al.look(h:Al P aD cs)(x:Str):(aM cs x=none∧valueAt aD x=none)∨∃b v,aM cs x=some b∧valueAt aD x=some v∧P x b v:=by
 induction h with
 |nil=>exact .inl ⟨rfl,rfl⟩
 |@cons y b v r r' a _ ih=>
  unfold aM valueAt
  simp only[List.find?_cons]
  by_cases e:y=x
  ·subst e;exact .inr ⟨b,v,by simp,by simp,a⟩
  ·simp only[e,decide_false];exact ih
theorem Al.hit(h:Al P aD cs){b:β}(hb:aM cs x=some b):∃v,valueAt aD x=some v∧P x b v:=by
 rcases h.look x with⟨a,_⟩|⟨b',v,a,c,d⟩
 ·rw[a] at hb;cases hb
 ·rw[a] at hb;cases hb;exact⟨v,c,d⟩
theorem Al.isSome(h:Al P aD cs)(x:Str):(valueAt aD x).isSome=(aM cs x).isSome:=by
 rcases h.look x with⟨a,b⟩|⟨b',v,a,c,d⟩
 ·rw[a,b];rfl
 ·rw[a,c];rfl
theorem Al.any(h:Al P aD cs)(x:Str):aD.any (fun kv=>kv.1=x)=cs.any (fun kv=>kv.1=x):=by
 induction h with
 |nil=>rfl
 |cons a _ ih=>simp only[List.any_cons,ih]
theorem Al.map{b:β}(h:Al P aD cs)(hp:P x b v):Al P (aD.map (fun kv=>if kv.1=x then (kv.1,v) else kv)) (cs.map (fun kv=>if kv.1=x then (kv.1,b) else kv)):=by
 induction h with
 |nil=>exact .nil
 |@cons y b' v' r r' a _ ih=>
  simp only[List.map_cons]
  by_cases e:y=x
  ·subst e;simp only[if_true];exact .cons hp ih
  ·simp only[e,if_false];exact .cons a ih
theorem Al.app{b:β}(h:Al P aD cs)(hp:P x b v):Al P (aD++[(x,v)]) (cs++[(x,b)]):=by
 induction h with
 |nil=>exact .cons hp .nil
 |cons a _ ih=>exact .cons a ih
theorem Al.put{b:β}(h:Al P aD cs)(hp:P x b v):Al P (stored aD x v) (bT cs x b):=by
 unfold stored bT
 rw[h.any x]
 split
 ·exact h.map hp
 ·exact h.app hp
theorem Al.len(h:Al P aD cs):aD.length=cs.length:=by
 induction h with
 |nil=>rfl
 |cons _ _ ih=>simp[ih]
theorem Al.get(h:Al P aD cs):∀{i:Nat} {k:Str} {v:Value},aD[i]?=some (k,v)→∃b,cs[i]?=some (k,b)∧P k b v:=by
 induction h with
 |nil=>intro i k v e;simp at e
 |cons a _ ih=>
  intro i k v e
  cases i with
  |zero=>simp at e;obtain⟨rfl,rfl⟩:=e;exact⟨_,by simp,a⟩
  |succ i=>simp at e;obtain⟨b,c,d⟩:=ih e;exact⟨b,by simpa using c,d⟩
theorem Al.keys(h:Al P aD cs):aD.map (·.1)=cs.map (·.1):=by
 induction h with
 |nil=>rfl
 |cons _ _ ih=>simp[ih]
end
def Fz(W:List Addr)(aa:List (Addr×Obj))(a:Addr)(o:Obj):Prop:=(a,o)∈aa∧a∉W
def cC(W:List Addr)(aa:List (Addr×Obj))(x K:Addr)(al:List (Str×Value)):Prop:=∃dx od,Fz W aa x (instObj K dx)∧Fz W aa dx od∧bG od al
def fy(W:List Addr)(aa:List (Addr×Obj))(x:Addr)(ys:List Str):Prop:=∃vs n,Fz W aa x (listOf vs n)∧StrsAre vs.toList ys
section
variable {x K:Addr} {ys:List Str}
def Kp(W:List Addr)(aa ag:List (Addr×Obj)):Prop:=∀p∈aa,p.1∉W→p∈ag
theorem Kp.refl:Kp W aa aa:=fun zz h zz=>h
theorem Kp.trans{bD:List (Addr×Obj)}(h:Kp W aa ag)(h':Kp W ag bD):Kp W aa bD:=fun p hp hw=>h' p (h p hp hw) hw
theorem Kp.cons{q:Addr×Obj}(h:Kp W aa ag):Kp W aa (q::ag):=fun p hp hw=> .tail _ (h p hp hw)
theorem Kp.fq(h:∀p∈aa,p∈ag):Kp W aa ag:=fun p hp zz=>h p hp
theorem Fz.mem(h:Fz W aa a o):(a,o)∈aa:=h.1
theorem Fz.mono(h:Fz W aa a o)(k:Kp W aa ag):Fz W ag a o:=⟨k _ h.1 h.2,h.2⟩
theorem cC.mono(h:cC W aa x K al)(k:Kp W aa ag):cC W ag x K al:=by
 obtain⟨dx,od,a,b,c⟩:=h
 exact⟨dx,od,a.mono k,b.mono k,c⟩
theorem fy.mono(h:fy W aa x ys)(k:Kp W aa ag):fy W ag x ys:=by
 obtain⟨vs,n,a,b⟩:=h
 exact⟨vs,n,a.mono k,b⟩
theorem cC.inst(h:cC W aa x K al):Inst aa x K al:=by
 obtain⟨dx,od,a,b,c⟩:=h
 exact⟨dx,od,a.1,b.1,c⟩
end
structure CA where
 mX:Bool
 sup:List Str
def kJ(W:List Addr)(aa:List (Addr×Obj))(sl:Addr)(mX:Bool):Prop:=match mX with
 |true=>∃n,Fz W aa sl (listOf #[] n)
 |false=>∃n tp t1 t2 k,Fz W aa sl (listOf #[.ref tp] n)∧Fz W aa tp {cls:= .type "tuple",data:= .seq #[.str (q "s") t1,.str (q "numeric") t2] k}
def ClsAt(W:List Addr)(aa:List (Addr×Obj))(nm:Str)(ca:CA)(v:Value):Prop:=∃c tk sl cl pr,v= .ref c∧
 cC W aa c 304 [(q "prototype",.ref pr),(q "virtual",.bool ca.mX),(q "validity",.none),(q "contains",.ref cl),(q "slots",.ref sl),(q "name",.str nm tk)]∧fy W aa cl ca.sup∧kJ W aa sl ca.mX
def fW(W:List Addr)(aa:List (Addr×Obj))(nm:Str)(ms:List Str)(v:Value):Prop:=∃u,v= .ref u∧fy W aa u ms
theorem kJ.mono{W aa ag sl b}(h:kJ W aa sl b)(k:Kp W aa ag):kJ W ag sl b:=by
 cases b with
 |true=>obtain⟨n,a⟩:=h;exact⟨n,a.mono k⟩
 |false=>obtain⟨n,tp,t1,t2,m,a,b⟩:=h;exact⟨n,tp,t1,t2,m,a.mono k,b.mono k⟩
theorem ClsAt.mono{W aa ag nm ca v}(h:ClsAt W aa nm ca v)(k:Kp W aa ag):ClsAt W ag nm ca v:=by
 obtain⟨c,tk,sl,cl,pr,e,a,b,d⟩:=h
 exact⟨c,tk,sl,cl,pr,e,a.mono k,b.mono k,d.mono k⟩
theorem fW.mono{W aa ag nm ms v}(h:fW W aa nm ms v)(k:Kp W aa ag):fW W ag nm ms v:=by
 obtain⟨u,e,a⟩:=h
 exact⟨u,e,a.mono k⟩
structure Dc(af:Program)(w:World){β:Type}(aa:List (Addr×Obj))(d:Addr)(P:Str→β→Value→Prop)(cs:List (Str×β)):Prop where
 mk::
 ex:∃o aD,(d,o)∈aa∧o.IsDictOf (strKind af w) aD∧Al P aD cs
 lo:(d==sysModules)=false
theorem Dc.nodup{af w}{β:Type}{d:Addr}{P:Str→β→Value→Prop}{cs:List (Str×β)}(D:Dc af w aa d P cs):(cs.map (·.1)).Nodup:=by
 refine aP D.ex fun o aD z1=>aO z1 fun z2 z3 al=>aP z3 fun z4 z5 z6=>eJ z6 fun z7 z8 z9 z10 hn=>?_
 clear z1 z3 z6
 rw[←al.keys];exact hn
theorem Dc.mono{af w}{β:Type}{d:Addr}{P P':Str→β→Value→Prop}{cs:List (Str×β)}(D:Dc af w aa d P cs)(hp:∀x b v,P x b v→P' x b v)(hd:∀o,(d,o)∈aa→(d,o)∈ag):Dc af w ag d P' cs:=by
 obtain⟨o,aD,a,b,c⟩:=D.ex
 exact⟨⟨o,aD,hd o a,b,c.mono hp⟩,D.lo⟩
structure Small(cs:List (Str×CA))(us:List (Str×List Str)):Prop where
 c:cs.length≤100
 s:∀p∈cs,p.2.sup.length≤100
 u:us.length≤100
 m:∀p∈us,p.2.length≤100
theorem ii{β:Type}{cs:List (Str×β)}{b:β}(h:aM cs x=some b):(x,b)∈cs:=by
 unfold aM at h
 cases e:cs.find? (fun kv=>kv.1=x) with
 |none=>rw[e] at h;cases h
 |some p=>
  rw[e] at h
  have h1:=List.find?_some e
  have h2:=List.mem_of_find?_eq_some e
  obtain⟨y,b'⟩:=p
  simp at h h1
  subst h h1;exact h2
theorem Je{β:Type}{cs:List (Str×β)}(hn:(cs.map (·.1)).Nodup){b:β}:∀{i:Nat},cs[i]?=some (x,b)→aM cs x=some b:=by
 induction cs with
 |nil=>intro i h;exact absurd h (by simp)
 |cons c r ih=>
  intro i h
  have hn:=List.nodup_cons.mp hn
  unfold aM
  rw[List.find?_cons]
  cases i with
  |zero=>cases Option.some.inj h;simp
  |succ i=>
   have hm:x∈r.map (·.1):=List.mem_map.mpr ⟨(x,b),List.mem_of_getElem? (i:=i) h,rfl⟩
   have eD:¬c.1=x:=fun e=>hn.1 (by show c.1∈_;rw[e];exact hm)
   rw[decide_eq_false eD]
   exact ih hn.2 (i:=i) h
theorem dq{α σ:Type}(f:σ→α→σ)(z:σ){l:List α}{i:Nat}{a:α}(h:l[i]?=some a):(l.take (i+1)).foldl f z=f ((l.take i).foldl f z) a:=by
 rw[List.take_add_one,h,List.foldl_append];rfl
theorem take_all{α σ:Type}(f:σ→α→σ)(z:σ){l:List α}{n:Nat}(h:n=l.length):(l.take n).foldl f z=l.foldl f z:=by rw[h,List.take_length]
structure Tab(af:Program)(w:World)(W:List Addr)(aa:List (Addr×Obj))(t dc du:Addr)(cs:List (Str×CA))(us:List (Str×List Str)):Prop where
 i:cC W aa t 409 [(q "unions",.ref du),(q "classes",.ref dc)]
 c:Dc af w aa dc (ClsAt W aa) cs
 u:Dc af w aa du (fW W aa) us
 z:Small cs us
theorem Tab.up{af w W aa t dc du cs us}(T:Tab af w W aa t dc du cs us){p:Addr×Obj}:Tab af w W (p::aa) t dc du cs us:=
 have k:Kp W aa (p::aa):=Kp.refl.cons
 ⟨T.i.mono k,T.c.mono (fun zz zz zz h=>h.mono k) fun zz h=> .tail _ h,T.u.mono (fun zz zz zz h=>h.mono k) (fun zz h=> .tail _ h),T.z⟩
theorem Tab.app{af w W aa t dc du cs us}(T:Tab af w W aa t dc du cs us):∀{aw:List (Addr×Obj)},Tab af w W (aw++aa) t dc du cs us
 |[]=>T
 |_::_=>(T.app).up
section
theorem nj{β:Type}{P:Str→β→Value→Prop}{cs:List (Str×β)}{d:Addr}{tk:Tok}(S:St ai ae L s l aa)(D:Dc af w aa d P cs)(h:∀s',St ai ae L s' l aa→Q (.bool (aM cs x).isSome) s'):
  wpAny (model af w) A (compareOp .In (.str x tk) (.ref d)) Q E s:=by
 refine aP D.ex fun o aD z1=>aO z1 fun a b c=>?_
 clear z1
 exact kda_in (knd:=strKind af w) S.N a b D.lo (strKind_is _ _ _ _) _ (c.isSome x) (h _ S.tick)
theorem i6{β:Type}{P:Str→β→Value→Prop}{cs:List (Str×β)}{d:Addr}{tk:Tok}{b:β}{value slice:Expr}(S:St ai ae L s l aa)(D:Dc af w aa d P cs)(hb:aM cs x=some b)(h:∀v s',P x b v→St ai ae L s' l aa→Q v s')(hs:autoParam (subscripted slice false (.ref d) (.str x tk)=operate [.ref d,.str x tk] (getItem (.ref d) (.str x tk))) wr):
  wpAny (model af w) A (subscriptTail value slice (.ref d) (.str x tk)) Q E s:=by
 refine aP D.ex fun o aD z1=>aO z1 fun a b' c=>?_
 clear z1
 refine aS (c.hit hb) fun v z1=>ay z1 fun hv hp=>?_
 clear z1
 exact kdt_tail (knd:=strKind af w) S.N a b' (kdt_getItem (knd:=strKind af w) S.N a b' (strKind_is _ _ _ _) hv (h v _ hp S.tick)) hs
end
theorem bA:handedIn (.ref a)=true:=rfl
theorem ds{t:Tok}:handedIn (.str x t)=true:=rfl
theorem Sd{x:Int}{t:Tok}:handedIn (.int x t)=true:=rfl
theorem Sc{x:Bool}:handedIn (.bool x)=true:=rfl
theorem Se:handedIn .none=true:=rfl
theorem bj{u:Value}(h2:List.lookup x l=none)(h:autoParam ((x==y)=false) kr):List.lookup x ((y,u)::l)=none:=by rw[List.lookup_cons,h];exact h2
theorem dP:List.lookup x ([]:List (Str×Value))=none:=rfl
theorem xdW{k:Str}(h:(strKind af w).is k v=true):∃t,v= .str k t:=by
 cases v with
 |str x t=>exact⟨t,by simp[PySem.strKind,Value.isStrOf] at h;rw[h]⟩
 |_=>simp[PySem.strKind,Value.isStrOf] at h
section
theorem xhv{np:Pos}{T:String}{e:Expr}(C:Cx gx aH A ae aE az L dp un)(S:St ai ae L s l aa)(hg:nsIn (KF gx.gw.params) mainGlobals x=some none)(hb:bootBuiltins x=some (.type T))(h:wpAny (model af gx.gw) A (spliced (backTo aI (starEach (e::aJ) (envX name aq L a cd cl)))) (fun vs aL=>wpAny (model af gx.gw) A (call (.type T) vs) Q E aL) E s)(he:autoParam (starEach (e::aJ) (envX name aq L a cd cl)=(false,eval e (envX name aq L a cd cl))::starEach aJ (envX name aq L a cd cl)) rf)(eS:autoParam ((backTo aI (starEach aJ (envX name aq L a cd cl))).any (·.1)=false) rf)(hk:autoParam (aq.kind= .function) kr)(hl:autoParam ((envX name aq L a cd cl).kindOf x=some .globalImplicit) kr)(hd:autoParam ((x==q "__debug__")=false) kr)(hd2:autoParam ((x==q "__name__")=false) kr):
  wpAny (model af gx.gw) A (eval (.Call (.Name x np) (e::aJ) [] aI) (envX name aq L a cd cl)) Q E s:=
 wpAny_Call_ofName (O5 C S hg hb (fun e=>by rw[e] at hd2;simp at hd2) (PyProof.Rows.callWith_type1 h he eS) (hk:=hk) (hl:=hl) (hd:=hd))
theorem fS{np:Pos}{T:String}{e:Expr}(C:Cx gx aH A ae aE az L dp un)(S:St ai ae L s l aa)(hg:nsIn (KF gx.gw.params) mainGlobals x=some none)(hb:bootBuiltins x=some (.type T))(h:wpAny (model af gx.gw) A (spliced (backTo aI (starEach (e::aJ) (envX name aq L a cd cl)))) (fun vs aL=>wpAny (model af gx.gw) A (call (.type T) vs) Q E aL) E s)(he:autoParam (starEach (e::aJ) (envX name aq L a cd cl)=(false,eval e (envX name aq L a cd cl))::starEach aJ (envX name aq L a cd cl)) rf)(eS:autoParam ((backTo aI (starEach aJ (envX name aq L a cd cl))).any (·.1)=false) rf)(hq:autoParam ((aq.kind,aq.names.lookup x,x==q "__debug__",x==q "__name__")=(.function,some .globalImplicit,false,false)) kr):wpAny (model af gx.gw) A (eval (.Call (.Name x np) (e::aJ) [] aI) (envX name aq L a cd cl)) Q E s:=xhv C S hg hb h he eS (hk:=t1 hq) (hl:=t1 (t2 hq)) (hd:=t1 (t2 (t2 hq))) (hd2:=t2 (t2 (t2 hq)))
theorem xhs{np:Pos}{T:String}{e:Expr}(C:Cx gx aH A ae aE az L dp un)(S:St ai ae L s l aa)(hg:nsIn (KF gx.gw.params) mainGlobals x=some none)(hb:bootBuiltins x=some (.builtin T))(h:wpAny (model af gx.gw) A (spliced (backTo aI (starEach (e::aJ) (envX name aq L a cd cl)))) (fun vs aL=>wpAny (model af gx.gw) A (call (.builtin T) vs) Q E aL) E s)(he:autoParam (starEach (e::aJ) (envX name aq L a cd cl)=(false,eval e (envX name aq L a cd cl))::starEach aJ (envX name aq L a cd cl)) rf)(eS:autoParam ((backTo aI (starEach aJ (envX name aq L a cd cl))).any (·.1)=false) rf)(hk:autoParam (aq.kind= .function) kr)(hl:autoParam ((envX name aq L a cd cl).kindOf x=some .globalImplicit) kr)(hd:autoParam ((x==q "__debug__")=false) kr)(hd2:autoParam ((x==q "__name__")=false) kr):
  wpAny (model af gx.gw) A (eval (.Call (.Name x np) (e::aJ) [] aI) (envX name aq L a cd cl)) Q E s:=by
 refine wpAny_Call_ofName (O5 C S hg hb (fun e=>by rw[e] at hd2;simp at hd2) ?_ (hk:=hk) (hl:=hl) (hd:=hd))
 show wpAny _ _ (callWith aI (.builtin T) [] (backTo aI (starEach (e::aJ) (envX name aq L a cd cl))) []) _ _ _
 rw[he] at h ⊢
 exact Calls.callWith_builtin (by show(false||(backTo aI (starEach aJ (envX name aq L a cd cl))).any (·.1))=false;rw[eS];rfl) (Calls.evalArgs_plain h)
theorem eU{np:Pos}{T:String}{e:Expr}(C:Cx gx aH A ae aE az L dp un)(S:St ai ae L s l aa)(hg:nsIn (KF gx.gw.params) mainGlobals x=some none)(hb:bootBuiltins x=some (.builtin T))(h:wpAny (model af gx.gw) A (spliced (backTo aI (starEach (e::aJ) (envX name aq L a cd cl)))) (fun vs aL=>wpAny (model af gx.gw) A (call (.builtin T) vs) Q E aL) E s)(he:autoParam (starEach (e::aJ) (envX name aq L a cd cl)=(false,eval e (envX name aq L a cd cl))::starEach aJ (envX name aq L a cd cl)) rf)(eS:autoParam ((backTo aI (starEach aJ (envX name aq L a cd cl))).any (·.1)=false) rf)(hq:autoParam ((aq.kind,aq.names.lookup x,x==q "__debug__",x==q "__name__")=(.function,some .globalImplicit,false,false)) kr):wpAny (model af gx.gw) A (eval (.Call (.Name x np) (e::aJ) [] aI) (envX name aq L a cd cl)) Q E s:=xhs C S hg hb h he eS (hk:=t1 hq) (hl:=t1 (t2 hq)) (hd:=t1 (t2 (t2 hq))) (hd2:=t2 (t2 (t2 hq)))
theorem UT{first:List Value}{T:String}{e:Expr}(h:wpAny M A (spliced (backTo aI (starEach (e::aJ) ev))) (fun vs aL=>wpAny M A (call (.builtin T) (first++vs)) Q E aL) E s)(he:autoParam (starEach (e::aJ) ev=(false,eval e ev)::starEach aJ ev) rf)(eS:autoParam ((backTo aI (starEach aJ ev)).any (·.1)=false) rf):
  wpAny M A (callWith aI (.builtin T) first (backTo aI (starEach (e::aJ) ev)) (backToKw aI (keywordEach [] ev))) Q E s:=by
 show wpAny _ _ (callWith aI (.builtin T) first (backTo aI (starEach (e::aJ) ev)) []) _ _ _
 rw[he] at h ⊢
 exact Calls.callWith_builtin (by show(false||(backTo aI (starEach aJ ev)).any (·.1))=false;rw[eS];rfl) (Calls.evalArgs_plain h)
theorem oW{b:Addr}{n:Nat}(S:St ai ae L s l aa)(hm:(b,listOf ba n)∈aa)(hz:ba.size≤sizeLine)(h:∀x c s',St ai ae L s' l ((x,listOf ba c)::aa)→(∀p∈aa,p.1<x)→Q (.ref x) s'):wpAny (model af w) A (call (.type "list") [.ref b]) Q E s:=
 kup_listOf S.F S.N hm rfl (fun D c h' F' N' lt=>h D c _ (S.to F' (by rwa [Array.toArray_toList] at N') (S.nd lt)) lt) (by simpa using hz)
theorem ft{D:Addr}{n:Nat}{pl:Sem Bool}{e:Expr}(S:St ai ae L s l aa)(hm:(D,listOf ba n)∈aa)(h:wpAny (model af w) A (eval e ev) (fun v aL=>wpAny (model af w) A (call (.builtin "list.append") [.ref D,v]) Q E aL) E s)(he:autoParam (starEach [e] ev=(false,eval e ev)::starEach [] ev) rf):
  wpAny (model af w) A (getMethod (.ref D) (q "append") pl) (fun fx bb=>wpAny (model af w) A (callWith aI fx.1 fx.2 (backTo aI (starEach [e] ev)) (backToKw aI (keywordEach [] ev))) Q E bb) E s:=
 listMethod_K S.N hm PySem.F.slot_list_append PySem.F.type_list_append (UT (first:=[.ref D]) (spliced_more (wpAny_mono h (fun v aL dD=>spliced_none dD) fun zz zz x=>x) he) he)
theorem fb{D:Addr}{n:Nat}(S:St ai ae L s l aa)(u:Up D (listOf ba n) (listOf (ba.push v) (n+1)) aa ag)(hz:ba.size≤sizeLine)(h:∀s',St ai ae L s' l ag→Q .none s'):wpAny (model af w) A (call (.builtin "list.append") [.ref D,v]) Q E s:=
 append_K S.F S.N (u.iK S.D) (fun h' F' N'=>h _ ⟨F',N',u.keys▸S.D,by rw[S.R]⟩) hz
theorem xhG{px:Pos}{Q:Flow→Shared→Prop}{d:Addr}{aD:List (Str×Value)}(C:Cx gx aH A ae aE az L dp un)(S:St ai ae L s l aa)(hd:o.IsDictOf (strKind af gx.gw) aD)(lo:(d==sysModules)=false)(J:Nat→List (Str×Value)→List (Addr×Obj)→Prop)(h0:J 0 l aa)(at_:∀i l' ag,J i l' ag→(d,o)∈ag)(step:∀i k v tk s' l' ag it,J i l' ag→aD[i]?=some (k,v)→St ai ae L s' ((x,.str k tk)::l') (it::ag)→
      wpAny (model af gx.gw) A (execs bL (envX name aq L a cd cl)) (kL (fun bx=>∃ef bD,St ai ae L bx ef (it::bD)∧J (i+1) ef bD) Q) (notedBy (model af gx.gw) A (envX name aq L a cd cl) (cameBackBy (model af gx.gw) A (envX name aq L a cd cl) E)) s')(done:∀s' l' ag,J aD.length l' ag→St ai ae L s' l' ag→Q .next s')(hk:autoParam (aq.kind= .function) kr)(hl:autoParam ((envX name aq L a cd cl).kindOf x=some .local) kr):
  wpAny (model af gx.gw) A (pyIter (.ref d)) (fun it bb=>
   codeAny (model af gx.gw) A (.forLoop (.Name x px) it bL [] (envX name aq L a cd cl)) (kB (model af gx.gw) A (envX name aq L a cd cl) Q E) bb) E s:=by
 refine aP hd fun es ep hod=>?_
 clear hd
 have I4:∀{s':Shared} {l' ag},St ai ae L s' l' ag→(d,o)∈ag→s'.heap.DictAt (strKind af gx.gw) d aD ep:=fun S' hm=>⟨o,es,(S'.N _ hm).1,hod⟩
 refine wpAny_pyIter_dict lo (I4 S (at_ _ _ _ h0)) ?_
 have S1:St ai ae L {s with heap:=s.heap.push {cls:= .type "dict_keyiterator",data:= .fields #[.ref d,.int 0 0,.int aD.length 0,.int ep 0]}} l ((s.heap.objs.size,{cls:= .type "dict_keyiterator",data:= .fields #[.ref d,.int 0 0,.int aD.length 0,.int ep 0]})::aa):=
  ⟨S.F.push _,S.N.push S.F _,S.nd S.lt,by rw[S.R]⟩
 generalize s.heap.objs.size=I at S1
 refine codeAny_forLoop (fun k s'=>∃i l' ag oi,(∀h:Heap,h.get? I=some oi→h.IsKeyIter I d i aD.length ep)∧St ai ae L s' l' ((I,oi)::ag)∧J i l' ag∧i≤aD.length∧k=aD.length+1- i) ?_ (aD.length+1)
  ⟨0,l,aa,_,fun h e=>⟨_,e,rfl,rfl⟩,S1,h0,Nat.zero_le _,rfl⟩
 rintro k s' ⟨i,l',ag,oi,hit,S',hJ,hi,rfl⟩
 have hit:=hit _ (S'.N _ (.head _)).1
 have hm:=at_ _ _ _ hJ
 cases hv:aD[i]? with
 |some kv=>
  obtain⟨k,v⟩:=kv
  have mL:i<aD.length:=by
   rcases Nat.lt_or_ge i aD.length with h|h
   ·exact h
   ·rw[List.getElem?_eq_none h] at hv;cases hv
  refine wpAny_pyNext_dict_item hit (I4 S' (.tail _ hm)) hv fun key h' xdw jh fi=>?_
  obtain⟨tk,rfl⟩:=xdW xdw
  refine aS jh fun d8 z1=>aO z1 fun gB mJ fC=>?_
  clear jh z1
  have S2:=S'.top fi gB
  refine wpAny_assign_Name (jo S2 (hk:=hk) (hl:=hl) fun s2 S3=>wpAny_mono (step i k v tk s2 l' ag (I,d8) hJ hv S3) (fun f bx cP=>?_) fun zz zz e=>e)
  exact qp cP fun cP=>by obtain⟨l2,cf,a,b⟩:=cP;exact⟨aD.length+1- (i+1),by exact oN mL,i+1,l2,cf,d8,fun h e=>⟨d8,e,mJ,fC⟩,a,b,mL,rfl⟩
 |none=>
  have:i=aD.length:=by
   rcases Nat.lt_or_ge i aD.length with h|h
   ·rw[List.getElem?_eq_getElem h] at hv;cases hv
   ·exact om7 hi h
  subst this
  refine wpAny_pyNext_dict_end C.hh hit (I4 S' (.tail _ hm)) hv fun h' fi=>wpAny_execs_nil ?_
  exact done _ l' ag hJ (S'.uH fi)
theorem Gu{px:Pos}{Q:Flow→Shared→Prop}{d:Addr}{aD:List (Str×Value)}(C:Cx gx aH A ae aE az L dp un)(S:St ai ae L s l aa)(hd:o.IsDictOf (strKind af gx.gw) aD)(lo:(d==sysModules)=false)(J:Nat→List (Str×Value)→List (Addr×Obj)→Prop)(h0:J 0 l aa)(at_:∀i l' ag,J i l' ag→(d,o)∈ag)(step:∀i k v tk s' l' ag it,J i l' ag→aD[i]?=some (k,v)→St ai ae L s' ((x,.str k tk)::l') (it::ag)→
      wpAny (model af gx.gw) A (execs bL (envX name aq L a cd cl)) (kL (fun bx=>∃ef bD,St ai ae L bx ef (it::bD)∧J (i+1) ef bD) Q) (notedBy (model af gx.gw) A (envX name aq L a cd cl) (cameBackBy (model af gx.gw) A (envX name aq L a cd cl) E)) s')(done:∀s' l' ag,J aD.length l' ag→St ai ae L s' l' ag→Q .next s')(hq:autoParam ((aq.kind,aq.names.lookup x)=(.function,some .local)) kr):wpAny (model af gx.gw) A (pyIter (.ref d)) (fun it bb=>
   codeAny (model af gx.gw) A (.forLoop (.Name x px) it bL [] (envX name aq L a cd cl)) (kB (model af gx.gw) A (envX name aq L a cd cl) Q E) bb) E s:=xhG C S hd lo J h0 at_ step done (hk:=t1 hq) (hl:=t2 hq)
end
theorem nD:bootBuiltins (q "list")=some (.type "list"):=by kernel_rfl
theorem eL:bootBuiltins (q "len")=some (.builtin "len"):=by kernel_rfl
theorem ja:bootBuiltins (q "range")=some (.type "range"):=by kernel_rfl
section
noncomputable def ig(cs:List (Str×CA))(x:Str):Bool:=(aM cs x).isSome||nC.any (·==x)
theorem VG{t dc du:Addr}{cs:List (Str×CA)}{tk:Tok}(C:Cx gx aH A ae aE az L (dp+4) (un+12))(S:St ai ae L s l aa)(T:Tab af gx.gw W aa t dc du cs us)(ret:∀s',St ai ae L s' l aa→R (.ok (.ret (.bool (ig cs x)))) s'):
  codeAny (model af gx.gw) A (.call (.ref 378) ⟨[.ref t,.str x tk],[]⟩) R s:=by
 refine xce C S (fun g L1 s C S=>bo ?_)
 intro Kz Ez
 unfold ig at ret
 refine ec ?_
 intro Kz
 refine wpAny_Return_some<|BoolOp_or<|wpAny_Compare1 ?_
 exists ap S ah ?_
 refine a9 C S (am ah) (lD _) T.i.inst (am ah) bA (fun s S=>nj S T.c (fun s S=>?_))
 exists bV (fun c0=>?_) (fun c0=>?_)
 ·refine aT S (fun S=>?_)
  rw[c0,Bool.true_or] at ret
  rw[c0]
  exact ret s S
 refine BoolOp_one<|methodCall_KW ?_
 exists ap S (am ah) ?_
 refine fw C S (SY _) T.i.inst (bj (bj (dP))) ?_
 exists aU S ah ?_
 refine bh C S<|VF C S (fun s S=>aT S (fun S=>?_))
 rw[c0,Bool.false_or] at ret
 exact ret s S
end
section
noncomputable def iQ(cs:List (Str×CA))(x:Str):List Str:=match aM cs x with
 |some ca=>ca.sup
 |none=>if nC.any (·==x)=true then iR x else []
noncomputable def f8(x:Str)(f:List Str)(u:Str×List Str):List Str:=if u.2.any (·==x)&& !(f.any (·==u.1)) then f++[u.1] else f
theorem PC{f:List Str}{k:Str}(h1:ms.any (·==x)=true)(h2:(!(f.any (·==k)))=true):f8 x f (k,ms)=f++[k]:=by unfold f8;rw[h1,h2];rfl
theorem Py{f:List Str}{k:Str}(h1:ms.any (·==x)=false):f8 x f (k,ms)=f:=by unfold f8;rw[h1];rfl
theorem Pz{f:List Str}{k:Str}(h2:(!(f.any (·==k)))=false):f8 x f (k,ms)=f:=by unfold f8;rw[h2,Bool.and_false];rfl
noncomputable def i4(cs:List (Str×CA))(us:List (Str×List Str))(x:Str):List Str:=us.foldl (f8 x) (iQ cs x)
theorem cG{vs:List Value}{xs:List Str}(h:StrsAre vs xs):vs.length=xs.length:=by
 induction h with
 |nil=>rfl
 |cons y t r ih=>exact congrArg (·+1) ih
theorem pf{vs:Array Value}{xs:List Str}{t:Tok}(h:StrsAre vs.toList xs):StrsAre (vs.push (.str y t)).toList (xs++[y]):=by
 rw[Array.toList_push];exact mh h (.cons _ _ .nil)
theorem xje(x:Str)(f:List Str)(u:Str×List Str):(f8 x f u).length≤f.length+1:=by
 unfold f8;split<;>simp
theorem RO(x:Str):∀(us:List (Str×List Str)) (f:List Str),(us.foldl (f8 x) f).length≤f.length+us.length
 |[],f=>by simp
 |u::r,f=>by
  have:=RO x r (f8 x f u)
  have:=xje x f u
  simp;omega
theorem mZ{c:Prop}[Decidable c]{a b:List Str}{n:Nat}(h1:a.length≤n)(h2:b.length≤n):(if c then a else b).length≤n:=by split<;>assumption
theorem YC(x:Str):(iR x).length≤2:=
 have s1:[q "numeric"].length≤2:=Nat.le_of_ble_eq_true rfl
 mZ s1 (mZ s1 (mZ aG (mZ aG (mZ aG (mZ aG (mZ aG (mZ aG aG)))))))
theorem Yq{cs us}(z:Small cs us)(x:Str):(iQ cs x).length≤100:=by
 unfold iQ
 cases e:aM cs x with
 |some ca=>exact z.s _ (ii e)
 |none=>have:=YC x;simp only;split<;>simp;exact om8 this
theorem Vh{vs:Array Value}{xs:List Str}(h:StrsAre vs.toList xs)(hz:xs.length≤200):vs.size≤sizeLine:=by
 have:=cG h
 rw[Array.length_toList] at this
 rw[sizeLine_eq];exact om9 hz this
theorem Jg{t dc du:Addr}{cs:List (Str×CA)}{tk:Tok}{f:Addr}{vs:Array Value}{n:Nat}{Q:Flow→Shared→Prop}(C:Cx gx aH A ae aE az L dp un)(S:St ai ae L s l ((f,listOf vs n)::aa))(T:Tab af gx.gw W aa t dc du cs us)(hF:l.lookup (q "found")=some (.ref f))(hX:l.lookup (q "name")=some (.str x tk))(hS:l.lookup (q "self")=some (.ref t))(hv:StrsAre vs.toList (iQ cs x))(ret:∀f vs n s' l',St ai ae L s' l' ((f,listOf vs n)::aa)→StrsAre vs.toList (i4 cs us x)→Q (.ret (.ref f)) s'):
  wpAny (model af gx.gw) A (execs (Qt.drop 2) (Rr L)) Q E s:=by
 refine aP T.u.ex fun o aD z1=>aO z1 fun ho hd al=>?_
 clear z1
 refine ec ?_
 intro Kz
 refine uh<|a9 C S hS (HB _) T.up.i.inst ah bA (fun s S=>?_)
 refine Gu C S hd T.u.lo (fun i l' ag=>(l'.lookup (q "found")=some (.ref f)∧l'.lookup (q "name")=some (.str x tk)∧l'.lookup (q "self")=some (.ref t))∧∃vs n,ag=(f,listOf vs n)::aa∧StrsAre vs.toList ((us.take i).foldl (f8 x) (iQ cs x)))
  ⟨⟨hF,hX,hS⟩,vs,n,rfl,hv⟩ (fun i l' ag hJ=>by obtain⟨_,_,_,rfl,_⟩:=hJ;exact mT ho) (fun i k v AB s l' ag it hJ hi S=>?_) (fun s l' ag hJ S=>?_)
 ·refine ay hJ fun z1 z2=>aO z1 fun hF hX hS=>aP z2 fun vs n z3=>ay z3 fun z4 hv=>?_
  clear hJ z1 z2 z3
  refine xS1 z4 S fun S=>?_
  refine aS (al.get hi) fun ms z1=>ay z1 fun dO z2=>aS z2 fun u z3=>ay z3 fun z4 hu=>?_
  clear z1 z2 z3
  subst z4
  have hz:((us.take i).foldl (f8 x) (iQ cs x)).length≤200:=by have:=RO x (us.take i) (iQ cs x);have:=Yq T.z x;have:=T.z.u;have:=List.length_take_le' i us;omega
  refine ec ?_
  intro Kz
  refine wpAny_If ?_
  exists isTrue_and ?_
  refine wpAny_isTrue_Compare1 ?_
  exists ap S (am hX) ?_
  refine Subscript_<|a9 C S (am hS) (HB _) T.up.up.i.inst ah bA (fun s S=>?_)
  exists ap S ah ?_
  refine i6 S T.up.up.u (Je T.u.nodup dO) (fun v s hp S=>aS hp fun u2 z1=>ay z1 fun z2 z3=>aP z3 fun ws m z4=>ay z4 fun hw hs=>?_)
  clear hp z1 z3 z4
  subst z2
  exists in_list_strs (St.lst S hw.mem) hs<|bV (fun c0=>?_) (fun c0=>?_)
  ·exists isTrue_and ?_
   refine wpAny_isTrue_Compare1 ?_
   exists ap S ah<|ap S (am hF)<|notin_list_strs (St.lst S (mT mH)) hv<|bV (fun c1=>?_) (fun c1=>?_)
   ·exists isTrue_and_nil<|er ?_
    refine ec ?_
    intro Kz
    refine wpAny_Expr<|methodCall_KW ?_
    exists ap S (am hF) ?_
    refine ft S (mT mH) ?_
    exists ap S ah ?_
    refine fb S (Up.tail Up.head) (Vh hv hz) (fun s S=>wpAny_execs_nil<|wpAny_execs_nil<|aN (aR S (aR (am hF) (am hX) (am hS)) (aN (bC rfl ?_))))
    rw[dq _ _ dO,PC c0 c1];exact pf hv
   exists cJ ?_
   refine wpAny_execs_nil<|wpAny_execs_nil<|aN (aR S (aR (am hF) (am hX) (am hS)) (aN (bC rfl ?_)))
   rw[dq _ _ dO,Pz c1];exact hv
  exists cJ ?_
  refine wpAny_execs_nil<|wpAny_execs_nil<|aN (aR S (aR (am hF) (am hX) (am hS)) (aN (bC rfl ?_)))
  rw[dq _ _ dO,Py c0];exact hv
 ·refine ay hJ fun z1 z2=>aO z1 fun hF hX hS=>aP z2 fun vs n z3=>ay z3 fun z4 hv=>?_
  clear hJ z1 z2 z3
  refine Wq z4 S fun S=>?_
  rw[take_all _ _ al.len] at hv
  refine ec ?_
  intro Kz
  refine wpAny_Return_some ?_
  exists ap S hF ?_
  exact ret f vs n s l' S hv
theorem xiS{t dc du:Addr}{cs:List (Str×CA)}{tk:Tok}(C:Cx gx aH A ae aE az L (dp+4) (un+12))(S:St ai ae L s l aa)(T:Tab af gx.gw W aa t dc du cs us)(ret:∀f vs n s',St ai ae L s' l ((f,listOf vs n)::aa)→StrsAre vs.toList (i4 cs us x)→R (.ok (.ret (.ref f))) s'):
  codeAny (model af gx.gw) A (.call (.ref 385) ⟨[.ref t,.str x tk],[]⟩) R s:=by
 refine xcf C S (fun g L1 s C S=>bo ?_)
 intro Kz Ez
 refine ec ?_
 intro Kz
 refine aX ?_
 exists List_ ?_
 refine cF S aG (fun x1 s S eA=>aW S (fun s S=>ec ?_))
 intro Kz
 refine br ?_
 exists ap S (am ah) ?_
 refine a9 C S (aB ah) (lD _) T.up.i.inst (am ah) bA (fun s S=>nj S T.up.c (fun s S=>?_))
 exists bV (fun c0=>?_) (fun c0=>?_)
 ·obtain⟨ca,H9⟩:=Option.isSome_iff_exists.mp c0
  refine ec ?_
  intro Kz
  refine aX<|fS C S (nP _) nD<|spliced_more<|Attribute_any_<|Subscript_<|a9 C S (aB ah) (lD _) T.up.i.inst (am ah) bA (fun s S=>?_)
  exists ap S (am ah) ?_
  refine i6 S T.up.c H9 (fun v s hp S=>eY hp fun cc jR sl cl pr z1=>bB z1 fun z2 hI z3 cV=>aP z3 fun nH cn z4=>ay z4 fun hw k7=>?_)
  clear hp z1 z3 z4
  subst z2
  refine gU C S (HE _) hI.inst (aV ah) bA (fun s S=>spliced_none<|oW S hw.mem (Vh k7 (Nat.le_trans (T.z.s _ (ii H9)) (by decide))) (fun x2 Rj s S dE=>aW S (fun s S=>wpAny_execs_nil<|Jg C (S.sub (.cons_cons _ (.cons _ (List.Sublist.refl _)))) T ah (aB ah) (aV ah) ?_ (fun f vs n s l' S hv=>?_))))
  ·unfold iQ;rw[H9];exact k7
  ·refine aT S (fun S=>?_)
   exact ret f vs n s S hv
 have fG:aM cs x=none:=by cases e:aM cs x<;>simp[e] at c0 ⊢
 refine ec ?_
 intro Kz
 refine wpAny_If<|isTrue_plain<|methodCall_KW ?_
 exists ap S (aB ah) ?_
 refine fw C S (SY _) T.up.i.inst (bj (bj (dP))) ?_
 exists aU S (am ah) ?_
 refine bh C S<|VF C S (fun s S=>?_)
 exists bV (fun c1=>?_) (fun c1=>?_)
 ·refine ec ?_
  intro Kz
  refine aX<|aY C S (xc5 _) ?_
  exists aU S (am ah) ?_
  refine bh C S<|xiN C S (fun x2 uJ s S k7 dE=>aW S (fun s S=>wpAny_execs_nil<|wpAny_execs_nil<|Jg C (S.sub (.cons_cons _ (.cons _ (List.Sublist.refl _)))) T ah (aB ah) (aV ah) ?_ (fun f vs n s l' S hv=>?_)))
  ·unfold iQ;rw[fG];simp only[c1,if_true];exact k7
  ·refine aT S (fun S=>?_)
   exact ret f vs n s S hv
 refine wpAny_execs_nil<|wpAny_execs_nil<|Jg C (S.sub (.cons_cons _ (List.Sublist.refl _))) T ah (am ah) (aB ah) ?_ (fun f vs n s l' S hv=>?_)
 ·unfold iQ;rw[fG];simp only[c1,Bool.false_eq_true,if_false];exact .nil
 ·refine aT S (fun S=>?_)
  exact ret f vs n s S hv
end
theorem BR{α:Type}[DecidableEq α]{l m:List α}(hn:l.Nodup)(hs:∀x∈l,x∈m):l.length≤m.length:=by
 induction l generalizing m with
 |nil=>exact Nat.zero_le _
 |cons a l ih=>
  have hn:=List.nodup_cons.mp hn
  have ha:a∈m:=hs a (.head _)
  have k:=ih (m:=m.erase a) hn.2 fun x hx=>(List.mem_erase_of_ne (fun e=>hn.1 (by rw[←e];exact hx))).mpr (hs x (.tail _ hx))
  rw[List.length_erase_of_mem ha] at k
  exact Nat.succ_le_of_lt (Nat.lt_of_le_of_lt k (Nat.sub_lt (List.length_pos_of_mem ha) Nat.one_pos))
noncomputable def fN(k:Int)(aK:List (Str×Int))(p:Str):List (Str×Int):=if (p==q "ANY"||aK.any (·.1==p))=true then aK else aK++[(p,k+1)]
noncomputable def gj(cs:List (Str×CA))(us:List (Str×List Str)):Nat→Nat→List (Str×Int)→List (Str×Int)
 |0,_,aK=>aK
 |n+1,i,aK=>match aK[i]? with
  |some (one,k)=>gj cs us n (i+1) ((i4 cs us one).foldl (fN k) aK)
  |none=>aK
noncomputable def AU:List Str:=[q "numeric",q "vector",q "array",q "integer",q "oldClass",q "list",q "language"]
noncomputable def univ(cs:List (Str×CA))(us:List (Str×List Str))(x:Str):List Str:=x::(cs.flatMap (·.2.sup)++us.map (·.1)++AU)
theorem nq{a m:List Str}(h:(a.all fun x=>m.contains x)=true):∀p∈a,p∈m:=fun p hp=>List.contains_iff_mem.mp (List.all_eq_true.mp h p hp)
theorem m0{c:Prop}[Decidable c]{a b m:List Str}(h1:∀p∈a,p∈m)(h2:∀p∈b,p∈m):∀p∈(if c then a else b),p∈m:=by split<;>assumption
theorem YD{p:Str}(h:p∈iR x):p∈AU:=
 have s1:=nq (a:=[q "numeric"]) (m:=AU) (by kernel_rfl)
 m0 s1 (m0 s1 (m0 (nq (by kernel_rfl)) (m0 (nq (by kernel_rfl)) (m0 (nq (by kernel_rfl)) (m0 (nq (by kernel_rfl)) (m0 (nq (by kernel_rfl)) (m0 (nq (by kernel_rfl)) (nq (by kernel_rfl))))))))) p h
theorem Yr{cs us}{p:Str}(h:p∈iQ cs y):p∈univ cs us x:=by
 unfold iQ at h
 unfold univ
 cases e:aM cs y with
 |some ca=>
  rw[e] at h
  exact .tail _ (List.mem_append_left _ (List.mem_append_left _ (List.mem_flatMap.mpr ⟨_,ii e,h⟩)))
 |none=>
  rw[e] at h
  simp only at h
  split at h
  ·exact .tail _ (List.mem_append_right _ (YD h))
  ·simp at h
theorem Hy{p:Str}:∀(us:List (Str×List Str)) (f:List Str),p∈us.foldl (f8 y) f→p∈f∨p∈us.map (·.1)
 |[],f,h=> .inl h
 |u::r,f,h=>by
  rcases Hy r (f8 y f u) h with h|h
  ·unfold f8 at h
   split at h
   ·rcases List.mem_append.mp h with h|h
    ·exact .inl h
    ·simp at h;subst h;exact .inr (by simp)
   ·exact .inl h
  ·exact .inr (by simp at h ⊢;exact .inr h)
theorem Gk{cs us}{p:Str}(h:p∈i4 cs us y):p∈univ cs us x:=by
 rcases Hy us _ h with h|h
 ·exact Yr h
 ·exact .tail _ (List.mem_append_left _ (List.mem_append_right _ h))
structure Good(cs:List (Str×CA))(us:List (Str×List Str))(x:Str)(aK:List (Str×Int)):Prop where
 nd:(aK.map (·.1)).Nodup
 sb:∀p∈aK,p.1∈univ cs us x
theorem Good.len{cs us x aK}(G:Good cs us x aK):aK.length≤(univ cs us x).length:=by
 have:=BR G.nd (m:=univ cs us x) fun y hy=>by obtain⟨p,hp,rfl⟩:=List.mem_map.mp hy;exact G.sb p hp
 simpa using this
set_option tactic.hygienic true in
theorem Good.add {cs us x aK} (G:Good cs us x aK) {k:Int} {p:Str} (hp:p∈univ cs us x):Good cs us x (fN k aK p):=by
 unfold fN
 split
 ·exact G
 ·rename_i h
  rw[Bool.or_eq_true,not_or] at h
  refine⟨?_,fun r hr=>?_⟩
  ·rw[List.map_append,List.nodup_append]
   refine⟨G.nd,by simp,fun a ha b hb=>?_⟩
   simp at hb;subst hb
   intro e;subst e
   refine aS (List.mem_map.mp ha) fun r z1=>ay z1 fun hr z2=>?_
   clear z1
   subst z2
   exact h.2 (List.any_eq_true.mpr ⟨r,hr,by simp⟩)
  ·rcases List.mem_append.mp hr with hr|hr
   ·exact G.sb r hr
   ·simp at hr;subst hr;exact hp
theorem Good.fold{cs us x}{k:Int}:∀(ps:List Str) (aK:List (Str×Int)),Good cs us x aK→(∀p∈ps,p∈univ cs us x)→Good cs us x (ps.foldl (fN k) aK)
 |[],_,G,_=>G
 |p::ps,aK,G,h=>Good.fold ps _ (G.add (h p (.head _))) fun r hr=>h r (.tail _ hr)
theorem Good.one{cs us x}:Good cs us x [(x,0)]:=⟨by simp,fun p hp=>by simp at hp;subst hp;exact .head _⟩
theorem pA{cs us}{i:Nat}(h:aK[i]?=none):∀n,gj cs us n i aK=aK
 |0=>rfl
 |n+1=>by unfold gj;rw[h]
theorem AW{cs us}{i n:Nat}{one:Str}{k:Int}(h:aK[i]?=some (one,k)):gj cs us (n+1) i aK=gj cs us n (i+1) ((i4 cs us one).foldl (fN k) aK):=by
 conv=>lhs;unfold gj
 rw[h]
noncomputable def jJ(cs:List (Str×CA))(us:List (Str×List Str))(x:Str):List (Str×Int):=gj cs us (univ cs us x).length 0 [(x,0)]
theorem VY{cs us}(z:Small cs us)(x:Str):(univ cs us x).length≤20000:=by
 unfold univ
 have h1:∀(cs:List (Str×CA)),(∀p∈cs,p.2.sup.length≤100)→(cs.flatMap (·.2.sup)).length≤cs.length*100:=by
  intro cs
  induction cs with
  |nil=>intro _;simp
  |cons c r ih=>
   intro h
   have:=ih fun p hp=>h p (.tail _ hp)
   have:=h c (.head _)
   rw[List.flatMap_cons,List.length_append,List.length_cons];omega
 have:=h1 cs z.s
 have:=z.c;have:=z.u
 have:AU.length=7:=rfl
 rw[List.length_cons,List.length_append,List.length_append,List.length_map,this]
 omega
theorem xh6{k:Int}{n:Nat}(h0:0≤k)(h:k.toNat<n):seqIndex? k n=some k.toNat:=by
 unfold seqIndex?
 have e:(if k<0 then k+(n:Int) else k)=k:=if_neg (by exact xeW h0)
 simp only[e]
 rw[if_pos]
 rw[Bool.and_eq_true,decide_eq_true_eq,decide_eq_true_eq]
 exact⟨h0,by exact xeR h⟩
section
theorem U7{test:Expr}{Q:Flow→Shared→Prop}(J:Nat→List (Str×Value)→List (Addr×Obj)→Prop)(n:Nat)(S:St ai ae L s l aa)(h0:J n l aa)(turn:∀n s' l' ag,J n l' ag→St ai ae L s' l' ag→
      wpAny (model af w) A (isTrue test ev (eval test ev)) (fun b bb=>
        if b=true then wpAny (model af w) A (execs bL ev) (kL (fun bx=>∃m ef bD,m<n∧St ai ae L bx ef bD∧J m ef bD) Q) (notedBy (model af w) A ev (cameBackBy (model af w) A ev E)) bb
        else Q .next bb) (notedBy (model af w) A ev (cameBackBy (model af w) A ev E)) s'):
  wpAny (model af w) A (exec (.While test bL [] aI) ev) Q E s:=by
 refine wpAny_While (codeAny_whileLoop (fun k s'=>∃l' ag,St ai ae L s' l' ag∧J k l' ag) ?_ n ⟨l,aa,S,h0⟩)
 rintro k s' ⟨l',ag,S',hJ⟩
 refine wpAny_mono (turn k s' l' ag hJ S') (fun b bb dS=>?_) fun zz zz e=>e
 cases b with
 |false=>exact wpAny_execs_nil (by simpa using dS)
 |true=>
  simp only[if_true] at dS ⊢
  refine wpAny_mono dS (fun f bx cP=>?_) fun zz zz e=>e
  exact qp cP fun cP=>by obtain⟨m,l2,cf,hm,a,b⟩:=cP;exact⟨m,hm,l2,cf,a,b⟩
theorem U6{px py tp:Pos}{kk:Nat}{value:Expr}{Q:Flow→Shared→Prop}(h:wpAny (model af w) A (eval value (envX name aq L a cd cl)) (fun v aL=>wpAny (model af w) A (assign (.Tuple [.Name x px,.Name y py] kk tp) (envX name aq L a cd cl) v) (fun zz=>Q .next) E aL) E s)(hs:autoParam (swapsWithSole [.Tuple [.Name x px,.Name y py] kk tp] value aI.line (envX name aq L a cd cl)=pure false) rf)(hw:autoParam (swappedStores [.Tuple [.Name x px,.Name y py] kk tp] value (envX name aq L a cd cl)=pure none) rf):
  wpAny (model af w) A (exec (.Assign [.Tuple [.Name x px,.Name y py] kk tp] value aI) (envX name aq L a cd cl)) Q E s:=Assign_Tuple h hs hw
theorem uw{px py tp:Pos}{kk:Nat}{t:Addr}{u:Value}{n:Nat}{Q:Unit→Shared→Prop}(C:Cx gx aH A ae aE az L dp un)(S:St ai ae L s l aa)(ht:(t,({cls:= .type "tuple",data:= .seq #[u,v] n}:Obj))∈aa)(h:∀s',St ai ae L s' ((y,v)::(x,u)::l) aa→Q () s')(hk:autoParam (aq.kind= .function) kr)(hx:autoParam ((envX name aq L a cd cl).kindOf x=some .local) kr)(hy:autoParam ((envX name aq L a cd cl).kindOf y=some .local) kr):
  wpAny (model af gx.gw) A (assign (.Tuple [.Name x px,.Name y py] kk tp) (envX name aq L a cd cl) (.ref t)) Q E s:=by
 refine assign_Tuple_tuple C.hh (S.tup ht) rfl rfl fun h' he=>?_
 have S1:St ai ae L {s with heap:=h'} l aa:=by
  have hn:ae.get? s.heap.objs.size=none:=by
   cases q:ae.get? s.heap.objs.size with
   |none=>rfl
   |some o=>exact absurd (Heap.lt_size (S.F.keep _ _ q)) (Nat.lt_irrefl _)
  refine⟨S.F.extBut he (Nat.le_refl _),fun p hp=>?_,S.D,by rw[S.R]⟩
  have z:=S.N p hp
  exact⟨he _ _ (Nat.ne_of_lt (Heap.lt_size z.1)) z.1,z.2⟩
 show wpAny _ _ (assignInOrder [assign (.Name x px) (envX name aq L a cd cl),assign (.Name y py) (envX name aq L a cd cl)] [u,v]) _ _ _
 refine assignInOrder_cons (assign_Name (jo S1 (hk:=hk) (hl:=hx) fun s2 S2=>?_))
 exact assignInOrder_cons (assign_Name (jo S2 (hk:=hk) (hl:=hy) fun s3 S3=>assignInOrder_nil (h _ S3)))
theorem UU{keys:List (Option Expr)}{values:List Expr}(C:Cx gx aH A ae aE az L dp un)(S:St ai ae L s l aa)(kU:keys.all (·.isSome)=true)(hl:keys.length=values.length)(h0:keys≠[])(hlen:keys.length≤15)(h:∀d aL,St ai ae L aL l ((d,emptyDict)::aa)→(d==sysModules)=false→wpAny (model af gx.gw) A (evalPairs (pairTrees keys values ev aI)) (fun vs bb=>St ai ae L bb l ((d,emptyDict)::aa)∧
      ∃aD,Carries (PySem.strKind af gx.gw) vs aD∧∀o bx,o.IsDictOf (PySem.strKind af gx.gw) (merged [] aD)→St ai ae L bx l ((d,o)::aa)→Q (.ref d) bx) E aL):
  wpAny (model af gx.gw) A (eval (.Dict keys values aI) ev) Q E s:=by
 have S1:St ai ae L {s with heap:=s.heap.push emptyDict} l ((s.heap.objs.size,emptyDict)::aa):=⟨S.F.push _,S.N.push S.F _,S.nd S.lt,by rw[S.R]⟩
 refine wpAny_Dict_walk (knd:=PySem.strKind af gx.gw) kU hl h0 hlen (wpAny_mono (h _ _ S1 (S.F.notModules (modules_low C.T.nolimit))) (fun vs bb dS=>?_) fun zz zz e=>e)
 refine ay dS fun S2 z1=>aS z1 fun aD z2=>ay z2 fun hc hq=>?_
 clear dS z1 z2
 refine iu (a:=aD) (aR hc (Heap.dictOf_iff.mpr ⟨_,(S2.N _ (.head _)).1,#[],0,⟨rfl,rfl,rfl⟩,rfl,fun e he=>by simp at he,.nil,by simp⟩) (fun h' hd hs=>?_))
 ·refine aS (Heap.dictOf_iff.mp hd) fun o' z1=>ay z1 fun gB fC=>?_
  clear z1
  have S3:=S2.top hs gB
  refine hq o' _ fC ⟨S3.F,S3.N,S3.D,?_⟩
  have e:=S2.R
  rw[e]
theorem jn{d:Addr}{aD:List (Str×Value)}{tk:Tok}{g:Obj→List (Addr×Obj)}{Q:Unit→Shared→Prop}(S:St ai ae L s l aa)(u:∀o',Up d o o' aa (g o'))(hd:o.IsDictOf (PySem.strKind af w) aD)(hz:aD.length≤sizeLine)(h:∀o' s',o'.IsDictOf (PySem.strKind af w) (stored aD x v)→St ai ae L s' l (g o')→Q () s'):wpAny (model af w) A (setItem (.ref d) (.str x tk) v) Q E s:=by
 obtain⟨pre,post,e,hg,a,b⟩:∃pre post,aa=pre++(d,o)::post∧(∀o',g o'=pre++(d,o')::post)∧(∀p∈pre,p.1≠d)∧∀p∈post,p.1≠d:=by
  refine aP (((u o).iK S.D).split) fun pre post z1=>bB z1 fun e1 z2 a b=>?_
  clear z1
  refine aN (a:=pre) (b:=post) (bW e1 (fun o'=>?_) a b)
  refine aP (((u o').iK S.D).split) fun O2 O0 z1=>bB z1 fun Hn Ho a' b'=>?_
  clear z1
  rw[Ho]
  have:=e1.symm.trans Hn
  have key:∀(p1 p2 q1 q2:List (Addr×Obj)),p1++(d,o)::q1=p2++(d,o)::q2→(∀p∈p1,p.1≠d)→(∀p∈p2,p.1≠d)→p1=p2∧q1=q2:=by
   intro p1
   induction p1 with
   |nil=>
    intro p2 q1 q2 e _ h2
    cases p2 with
    |nil=>simp at e;exact⟨rfl,e⟩
    |cons z r=>simp at e;exact absurd (by rw[←e.1]) (h2 z (.head _))
   |cons y r ih=>
    intro p2 q1 q2 e h1 h2
    cases p2 with
    |nil=>simp at e;exact absurd (by rw[e.1]) (h1 y (.head _))
    |cons z r2=>
     simp at e
     obtain⟨rfl,e⟩:=e
     obtain⟨a,b⟩:=ih r2 q1 q2 e (fun p hp=>h1 p (.tail _ hp)) (fun p hp=>h2 p (.tail _ hp))
     exact⟨by rw[a],b⟩
  obtain⟨c1,c2⟩:=key pre O2 post O0 this a a'
  rw[c1,c2]
 have U:UpdF d o aa g:=by
  have mk:∀(pre:List (Addr×Obj)) (g:Obj→List (Addr×Obj)),(∀p∈pre,p.1≠d)→(∀o',g o'=pre++(d,o')::post)→UpdF d o (pre++(d,o)::post) g:=by
   intro pre
   induction pre with
   |nil=>intro g _ hg;have:g=fun o'=>(d,o')::post:=funext hg;rw[this];exact .head b
   |cons y r ih=>
    intro g h1 hg
    have:g=fun o'=>y::(r++(d,o')::post):=funext hg
    rw[this]
    exact .tail (h1 y (.head _)) (ih _ (fun p hp=>h1 p (.tail _ hp)) fun zz=>rfl)
  rw[e];exact mk pre g a hg
 refine kda_set (knd:=PySem.strKind af w) S.F S.N U hd (strKind_is _ _ _ _) hz fun h' o' F' N' fC=>h o' _ fC ⟨F',N',?_,by rw[S.R]⟩
 rw[(u o').keys];exact S.D
theorem xhF(S:St ai ae L s l aa)(hv:l.lookup x=some v)(h:Q v s)(hk:autoParam (aq.kind= .function) kr)(hl:autoParam ((envX name aq L a cd cl).kindOf x=some .local) kr):
  wpAny M A (loadName (envX name aq L a cd cl) x) Q E s:=wpAny_loadName_local hk hl S.F.ns hv h
theorem UZ(S:St ai ae L s l aa)(hv:l.lookup x=some v)(h:Q v s)(hq:autoParam ((aq.kind,aq.names.lookup x)=(.function,some .local)) kr):wpAny M A (loadName (envX name aq L a cd cl) x) Q E s:=xhF S hv h (hk:=t1 hq) (hl:=t2 hq)
theorem uq{d:Addr}{aD:List (Str×Value)}{tk:Tok}(S:St ai ae L s l aa)(hm:(d,o)∈aa)(hd:o.IsDictOf (PySem.strKind af w) aD)(lo:(d==sysModules)=false)(h:∀s',St ai ae L s' l aa→Q (.bool (!(valueAt aD x).isSome)) s'):wpAny (model af w) A (compareOp .NotIn (.str x tk) (.ref d)) Q E s:=kdg_notin (knd:=PySem.strKind af w) S.N hm hd lo (strKind_is _ _ _ _) _ rfl (h _ S.tick)
theorem Gv{a b:Int}{t u:Tok}(h:Q (.bool (decide (a<b))) s):wpAny (model af w) A (compareOp .Lt (.int a t) (.int b u)) Q E s:=wpAny_lt_int h
theorem At{a b:Int}{t u:Tok}(S:St ai ae L s l aa)(h:∀t s',St ai ae L s' l aa→Q (.int (a+b) t) s'):wpAny (model af w) A (binaryOp .Add (.int a t) (.int b u)) Q E s:=wpAny_add_int (h _ _ S.tick)
theorem Pc{a b:Int}{t u:Tok}(S:St ai ae L s l aa)(h:∀t s',St ai ae L s' l aa→Q (.int (a+b) t) s'):wpAny (model af w) A (inplaceOp .Add (.int a t) (.int b u)) Q E s:=iadd_int (h _ _ S.tick)
theorem UX{n:Nat}{k:Int}{u:Tok}{x:Value}{value slice:Expr}(S:St ai ae L s l aa)(hm:(a,listOf ba n)∈aa)(h0:0≤k)(nW:k<2^63)(hx:ba[k.toNat]?=some x)(h:Q x s)(hs:autoParam (subscripted slice false (.ref a) (.int k u)=operate [.ref a,.int k u] (getItem (.ref a) (.int k u))) wr)(hg:autoParam (∀r,letTemporaryGo value (.ref a) r=pure ()) iw):
  wpAny (model af w) A (subscriptTail value slice (.ref a) (.int k u)) Q E s:=
 kim_list (l:=ba.toList) S.N hm rfl (by rw[Array.toArray_toList]) h0 nW (by simpa using hx) h hs hg
theorem eV{n:Nat}(S:St ai ae L s l aa)(hm:(a,listOf ba n)∈aa)(hz:ba.size≤sizeLine)(h:∀t s',St ai ae L s' l aa→Q (.int ba.size t) s'):
  wpAny (model af w) A (call (.builtin "len") [.ref a]) Q E s:=call_len_list (S.lst hm) (by rw[sizeLine_eq] at hz;exact T7 hz) (h _ _ S.tick)
end
noncomputable abbrev bK(ba:Array Value)(n:Nat):Obj:={cls:= .type "tuple",data:= .seq ba n}
inductive cZ(aa:List (Addr×Obj)):List Value→List (Str×Int)→Prop
 |nil:cZ aa [] []
 |cons {t:Addr} {x:Str} {k:Int} {a b:Tok} {c:Nat} {vs aK}:(t,bK #[.str x a,.int k b] c)∈aa→cZ aa vs aK→cZ aa (.ref t::vs) ((x,k)::aK)
theorem cZ.mono{vs aK}(h:cZ aa vs aK)(k:∀p∈aa,p∈ag):cZ ag vs aK:=by
 induction h with
 |nil=>exact .nil
 |cons a _ ih=>exact .cons (k _ a) ih
theorem cZ.len{vs aK}(h:cZ aa vs aK):vs.length=aK.length:=by
 induction h with
 |nil=>rfl
 |cons a _ ih=>simp[ih]
theorem cZ.push{vs:Array Value}{aK}(h:cZ aa vs.toList aK){t:Addr}{k:Int}{a b:Tok}{c:Nat}(ht:(t,bK #[.str x a,.int k b] c)∈aa):cZ aa (vs.push (.ref t)).toList (aK++[(x,k)]):=by
 rw[Array.toList_push]
 generalize vs.toList=us at h
 induction h with
 |nil=>exact .cons ht .nil
 |cons a _ ih=>exact .cons a ih
theorem cZ.get{vs:List Value}(H:cZ aa vs aK):∀{i:Nat} {v:Value},vs[i]?=some v→∃t x k a b c,v= .ref t∧aK[i]?=some (x,k)∧(t,bK #[.str x a,.int k b] c)∈aa:=by
 induction H with
 |nil=>intro i v h;exact absurd h (by simp)
 |cons hm r ih=>
  intro i v h
  cases i with
  |zero=>exact⟨_,_,_,_,_,_,(Option.some.inj h).symm,rfl,hm⟩
  |succ i=>exact ih h
theorem cZ.tail{vs aK}(h:cZ aa vs aK):cZ aa vs.tail aK.tail:=by
 cases h with
 |nil=>exact .nil
 |cons _ r=>exact r
def fM(aD:List (Str×Value))(aK:List (Str×Int)):Prop:=∀p,(valueAt aD p).isSome=(p==q "ANY"||aK.any (·.1==p))
theorem GK(y:Str):∀aD:List (Str×Value),(valueAt aD y).isSome=aD.any (fun kv=>kv.1==y)
 |[]=>rfl
 |kv::r=>by
  have ih:=GK y r
  unfold valueAt at ih ⊢
  simp only[List.find?_cons,List.any_cons]
  by_cases e:kv.1=y
  ·subst e;simp
  ·rw[decide_eq_false e,beq_false_of_ne e,Bool.false_or];exact ih
theorem SU(p y:Str)(v:Value):∀aD:List (Str×Value),(aD.map (fun kv=>if kv.1=p then (kv.1,v) else kv)).any (fun kv=>kv.1==y)=aD.any (fun kv=>kv.1==y)
 |[]=>rfl
 |kv::r=>by
  rw[List.map_cons,List.any_cons,List.any_cons,SU p y v r]
  split<;>rfl
theorem Qn(p:Str):∀aD:List (Str×Value),(aD.any fun kv=>decide (kv.1=p))=aD.any (fun kv=>kv.1==p)
 |[]=>rfl
 |kv::r=>by
  rw[List.any_cons,List.any_cons,Qn p r]
  by_cases e:kv.1=p
  ·rw[decide_eq_true e,e];simp
  ·rw[decide_eq_false e,beq_false_of_ne e]
set_option tactic.hygienic true in
theorem AH {aD:List (Str×Value)} {p:Str}:(valueAt (stored aD p v) y).isSome=((valueAt aD y).isSome||y==p):=by
 rw[GK,GK]
 unfold stored
 split
 ·rename_i h
  rw[SU]
  by_cases e:y=p
  ·subst e;rw[Qn] at h;rw[h];simp
  ·rw[beq_false_of_ne e,Bool.or_false]
 ·rw[List.any_append]
  have:(([(p,v)]:List (Str×Value)).any fun kv=>kv.1==y)=(y==p):=by
   simp only[List.any_cons,List.any_nil,Bool.or_false]
   exact BEq.comm
  rw[this]
theorem fM.len{aD:List (Str×Value)}(h:fM aD aK)(hn:(aD.map (·.1)).Nodup):aD.length≤aK.length+1:=by
 have:=BR hn (m:=q "ANY"::aK.map (·.1)) fun y hy=>by
  refine aS (List.mem_map.mp hy) fun kv z1=>ay z1 fun hk z2=>?_
  clear z1
  subst z2
  have z:=h kv.1
  rw[GK,List.any_eq_true.mpr ⟨kv,hk,by simp⟩] at z
  have z:=z.symm
  rw[Bool.or_eq_true] at z
  rcases z with z|z
  ·rw[beq_iff_eq.mp z];exact .head _
  ·refine aS (List.any_eq_true.mp z) fun r z1=>ay z1 fun hr e=>?_
   clear z1
   exact .tail _ (List.mem_map.mpr ⟨r,hr,beq_iff_eq.mp e⟩)
 simpa using this
theorem fM.add{aD:List (Str×Value)}(h:fM aD aK){p:Str}{k:Int}:fM (stored aD p v) (aK++[(p,k)]):=by
 intro y
 rw[AH,h y,List.any_append]
 have:(([(p,k)]:List (Str×Int)).any fun x=>x.1==y)=(y==p):=by
  simp only[List.any_cons,List.any_nil,Bool.or_false]
  exact BEq.comm
 rw[this,Bool.or_assoc]
theorem eW{vs:List Value}{xs:List Str}(H:StrsAre vs xs):∀{i:Nat} {v:Value},vs[i]?=some v→∃x t,v= .str x t∧xs[i]?=some x:=by
 induction H with
 |nil=>intro i v h;exact absurd h (by simp)
 |cons y t r ih=>
  intro i v h
  cases i with
  |zero=>exact⟨_,_,(Option.some.inj h).symm,rfl⟩
  |succ i=>exact ih h
theorem Qj{k:Int}{p:Str}{aD:List (Str×Value)}(h:fM aD aK)(c:(!(valueAt aD p).isSome)=true):fN k aK p=aK++[(p,k+1)]:=by
 rw[h p] at c;unfold fN;rw[if_neg (by intro e;rw[e] at c;cases c)]
theorem Qi{k:Int}{p:Str}{aD:List (Str×Value)}(h:fM aD aK)(c:(!(valueAt aD p).isSome)=false):fN k aK p=aK:=by
 rw[h p] at c;unfold fN;rw[if_pos (by cases e:(p==q "ANY"||aK.any (·.1==p))<;>rw[e] at c<;>first|rfl|cases c)]
theorem fM.start(x:Str){v':Value}:fM (merged [] [(x,v),(q "ANY",v')]) [(x,0)]:=by
 intro y
 show(valueAt (stored (stored [] x v) (q "ANY") v') y).isSome=_
 rw[AH,AH]
 have:(valueAt ([]:List (Str×Value)) y).isSome=false:=rfl
 rw[this,Bool.false_or,Bool.or_comm]
 simp only[List.any_cons,List.any_nil,Bool.or_false]
 rw[BEq.comm (a:=y) (b:=x)]
section
theorem St.perm(S:St ai ae L s l aa)(hp:aa.Perm ag):St ai ae L s l ag:=⟨S.F,fun p h=>S.N p (hp.mem_iff.mpr h),(hp.map _).nodup S.D,S.R⟩
theorem St.sw{a b:Addr×Obj}(S:St ai ae L s l (a::b::aa)):St ai ae L s l (b::a::aa):=S.perm (.swap b a aa)
theorem St.wb{x a b c d:Addr×Obj}(S:St ai ae L s l (x::a::b::c::d::aa)):St ai ae L s l (a::b::c::d::x::aa):=
 S.perm ((List.Perm.swap a x _).trans (.cons _ ((List.Perm.swap b x _).trans (.cons _ ((List.Perm.swap c x _).trans (.cons _ (.swap d x aa)))))))
end
section
theorem km{t u:Tok}(h:Q (.bool (x !=y)) s):wpAny (model af w) A (compareOp .NotEq (.str x t) (.str y u)) Q E s:=PyProof.Rows.ne_str h
theorem Pj{a b:Int}{t u:Tok}(S:St ai ae L s l aa)(h:∀t s',St ai ae L s' l aa→Q (.int (a- b) t) s'):wpAny (model af w) A (binaryOp .Sub (.int a t) (.int b u)) Q E s:=sub_int (h _ _ S.tick)
theorem li{n:Nat}{k:Int}{u:Tok}{x:Value}{value slice:Expr}(S:St ai ae L s l aa)(hm:(a,({cls:= .type "tuple",data:= .seq ba n}:Obj))∈aa)(h0:0≤k)(nW:k<2^63)(hx:ba[k.toNat]?=some x)(h:Q x s)(hs:autoParam (subscripted slice false (.ref a) (.int k u)=operate [.ref a,.int k u] (getItem (.ref a) (.int k u))) wr):
  wpAny (model af w) A (subscriptTail value slice (.ref a) (.int k u)) Q E s:=
 have ht:IsTup s.heap a ba:=S.tup hm
 PyProof.Rows.tail_any ht.typeIs slot_tuple_getitem.lookup (getItem_tuple ht (by exact xfd h0) nW (xh6 h0 (by
  rcases Nat.lt_or_ge k.toNat ba.size with q|q
  ·exact q
  ·rw[Array.getElem?_eq_none q] at hx;cases hx)) hx h) hs
theorem xhR{value:Expr}{kk:Nat}{cp sp:Pos}(_S:St ai ae L s l ag)(h:wpAny (model af w) A (eval value ev) (fun o aL=>∃a ba n aa,o= .ref a∧St ai ae L aL l aa∧(a,listOf ba n)∈aa∧ba.size≤sizeLine∧1≤ba.size∧
      ∀x s',St ai ae L s' l ((x,listOf (ba.toList.drop 1).toArray 0)::aa)→Q (.ref x) s') E s)(ht:autoParam (∀o r,letTemporaryGo value o r=pure ()) ir):
  wpAny (model af w) A (eval (.Subscript value (.Slice (some (.Constant (.int 1) kk cp)) none none sp) aI) ev) Q E s:=by
 refine wpAny_Subscript_list_slice (wpAny_mono h (fun o aL dD=>?_) fun zz zz e=>e) ht
 refine cB dD fun a ba n aa z1=>kF z1 fun z2 S hm hz h1 k=>?_
 clear dD z1
 subst z2
 refine evalPart_some_step (bf S fun tq bb S2=>evalPart_none_step ⟨a,ba,some 1,none,rfl,S2.lst hm,hz,.int 1 _,.none,?_⟩)
 have e:slicePick ba (some 1) none none=(ba.toList.drop 1).toArray:=slicePick_from ba 1 h1
 rw[e]
 have S3:St ai ae L {bb with heap:=bb.heap.push {cls:= .type "slice",data:= .fields #[.int 1 tq,.none,.none]}} l aa:=⟨S2.F.push _,S2.N.grown fun zz zz e=>Heap.get?_push_of_some _ e,S2.D,by rw[S2.R]⟩
 have S4:St ai ae L {bb with heap:=(bb.heap.push {cls:= .type "slice",data:= .fields #[.int 1 tq,.none,.none]}).push {cls:= .type "list",data:= .seq (ba.toList.drop 1).toArray}} l
   (((bb.heap.push {cls:= .type "slice",data:= .fields #[.int 1 tq,.none,.none]}).objs.size,listOf (ba.toList.drop 1).toArray 0)::aa):=
  ⟨S3.F.push _,S3.N.push S3.F _,S3.nd S3.lt,by rw[S2.R]⟩
 have:=k _ _ S4
 rw[Heap.size_push] at this
 exact this
end
theorem RP{k:Int}:∀(ps:List Str) (aK:List (Str×Int)),aK.length≤(ps.foldl (fN k) aK).length
 |[],aK=>Nat.le_refl _
 |p::ps,aK=>by
  have h1:aK.length≤(fN k aK p).length:=by unfold fN;split<;>simp
  exact Nat.le_trans h1 (RP ps _)
theorem Qw{cs us}:∀(n i:Nat) (aK:List (Str×Int)),aK.length≤(gj cs us n i aK).length
 |0,_,aK=>Nat.le_refl _
 |n+1,i,aK=>by
  unfold gj
  split
  ·exact Nat.le_trans (RP _ _) (Qw n _ _)
  ·exact Nat.le_refl _
theorem xh2{cs us x}:1≤(jJ cs us x).length:=Qw _ _ [(x,0)]
section
theorem cD{dU:Expr}{iter:Expr}{Q:Flow→Shared→Prop}(h:wpAny M A (eval iter (envX name aq L a cd cl)) (fun x' aL=>wpAny M A (pyIter x') (fun it bb=>
      codeAny M A (.forLoop dU it bL [] (envX name aq L a cd cl)) (kB M A (envX name aq L a cd cl) Q E) bb) E aL) E s)(hs:autoParam (∀x,foldedSetIterable iter (envX name aq L a cd cl) x=pure x) ir):wpAny M A (exec (.For dU iter bL [] aI) (envX name aq L a cd cl)) Q E s:=wpAny_For h hs
theorem xhH{dU:Expr}{Q:Flow→Shared→Prop}{ax:Addr}(C:Cx gx aH A ae aE az L dp un)(S:St ai ae L s l aa)(J:Nat→List (Str×Value)→List (Addr×Obj)→Prop)(N:Nat)(h0:J 0 l aa)(at_:∀i l' ag,J i l' ag→∃vs n,(ax,listOf vs n)∈ag∧vs.size≤N)(step:∀i v vs n s' l' ag it,J i l' ag→(ax,listOf vs n)∈ag→vs[i]?=some v→St ai ae L s' l' (it::ag)→
      wpAny (model af gx.gw) A (assign dU (envX name aq L a cd cl) v) (fun zz bb=>wpAny (model af gx.gw) A (execs bL (envX name aq L a cd cl)) (kL (fun bx=>∃ef bD,St ai ae L bx ef (it::bD)∧J (i+1) ef bD) Q) (notedBy (model af gx.gw) A (envX name aq L a cd cl) (cameBackBy (model af gx.gw) A (envX name aq L a cd cl) E)) bb) (notedBy (model af gx.gw) A (envX name aq L a cd cl) (cameBackBy (model af gx.gw) A (envX name aq L a cd cl) E)) s')(done:∀i vs n s' l' ag,J i l' ag→(ax,listOf vs n)∈ag→vs[i]?=none→St ai ae L s' l' ag→Q .next s'):
  wpAny (model af gx.gw) A (pyIter (.ref ax)) (fun it bb=>
   codeAny (model af gx.gw) A (.forLoop dU it bL [] (envX name aq L a cd cl)) (kB (model af gx.gw) A (envX name aq L a cd cl) Q E) bb) E s:=by
 have oA:∀{s':Shared} {l' ag vs n},St ai ae L s' l' ag→(ax,listOf vs n)∈ag→s'.heap.IsList ax vs:=fun S' hm=>⟨_,(S'.N _ hm).1,rfl,_,rfl⟩
 refine aP (at_ _ _ _ h0) fun vs n z1=>ay z1 fun hm z2=>?_
 clear z1
 refine wpAny_pyIter_list (oA S hm) ?_
 have S1:St ai ae L {s with heap:=s.heap.push {cls:= .type "list_iterator",data:= .fields #[.ref ax,.int 0 0]}} l ((s.heap.objs.size,{cls:= .type "list_iterator",data:= .fields #[.ref ax,.int 0 0]})::aa):=
  ⟨S.F.push _,S.N.push S.F _,S.nd S.lt,by rw[S.R]⟩
 generalize s.heap.objs.size=I at S1
 refine codeAny_forLoop_any (fun k s'=>∃i l' ag oi,oi.cls= .type "list_iterator"∧oi.data= .fields #[.ref ax,.int (i:Nat) 0]∧St ai ae L s' l' ((I,oi)::ag)∧J i l' ag∧i≤N∧k=N+1- i) ?_ (N+1) ⟨0,l,aa,_,rfl,rfl,S1,h0,Nat.zero_le _,rfl⟩
 rintro k s' ⟨i,l',ag,oi,hc,hd,S',hJ,hi,rfl⟩
 refine aP (at_ _ _ _ hJ) fun vs n z1=>ay z1 fun hm hz=>?_
 clear z1
 have hit:s'.heap.IsListIter I ax i:=⟨oi,(S'.N _ (.head _)).1,hc,hd⟩
 cases hv:vs[i]? with
 |some v=>
  have mL:i<N:=by
   have:i<vs.size:=by
    rcases Nat.lt_or_ge i vs.size with h|h
    ·exact h
    ·rw[Array.getElem?_eq_none h] at hv;cases hv
   exact OM hz this
  refine wpAny_pyNext_list_item hit (oA S' (.tail _ hm)) hv fun h' jh fi=>aS jh fun d8 z1=>aO z1 fun gB mJ fC=>?_
  clear jh z1
  have S2:=S'.top fi gB
  refine PyProof.Rows.letGo_listiter ⟨d8,gB,mJ,fC⟩<|wpAny_mono (step i v vs n _ l' ag (I,d8) hJ hm hv S2) (fun zz bb dS=>wpAny_mono dS (fun f bx cP=>?_) fun zz zz e=>e) fun zz zz e=>e
  exact qp cP fun cP=>by obtain⟨l2,cf,a,b⟩:=cP;exact⟨N+1- (i+1),by exact oN mL,i+1,l2,cf,d8,mJ,fC,a,b,mL,rfl⟩
 |none=>
  refine wpAny_pyNext_list_end C.hh hit (oA S' (.tail _ hm)) hv fun h' fi=>wpAny_execs_nil ?_
  exact done i vs n _ l' ag hJ hm hv (S'.uH fi)
end
section
theorem Av{β:Type}{P:Str→β→Value→Prop}{cs:List (Str×β)}{d:Addr}{pl:Sem Bool}{e:Expr}(S:St ai ae L s l aa)(D:Dc af w aa d P cs)(h:wpAny (model af w) A (spliced (backTo aI (starEach (e::aJ) ev))) (fun vs aL=>wpAny (model af w) A (call (.builtin "dict.get") (.ref d::vs)) Q E aL) E s)(he:autoParam (starEach (e::aJ) ev=(false,eval e ev)::starEach aJ ev) rf)(eS:autoParam ((backTo aI (starEach aJ ev)).any (·.1)=false) rf):
  wpAny (model af w) A (getMethod (.ref d) (q "get") pl) (fun fx bb=>wpAny (model af w) A (callWith aI fx.1 fx.2 (backTo aI (starEach (e::aJ) ev)) (backToKw aI (keywordEach [] ev))) Q E bb) E s:=by
 refine aP D.ex fun o aD z1=>aO z1 fun a b c=>?_
 clear z1
 exact kdg_method (knd:=PySem.strKind af w) S.N a b (UT (first:=[.ref d]) h he eS)
theorem Pb{β:Type}{P:Str→β→Value→Prop}{cs:List (Str×β)}{d:Addr}{tk:Tok}(S:St ai ae L s l aa)(D:Dc af w aa d P cs)(h:∀v s',(match aM cs x with|some b=>P x b v|none=>v= .none)→St ai ae L s' l aa→Q v s'):wpAny (model af w) A (call (.builtin "dict.get") [.ref d,.str x tk]) Q E s:=by
 refine aP D.ex fun o aD z1=>aO z1 fun a b c=>?_
 clear z1
 refine kdg_get1 (knd:=PySem.strKind af w) S.N a b D.lo (strKind_is _ _ _ _) _ rfl (h _ _ ?_ S.tick)
 rcases c.look x with⟨e1,e2⟩|⟨b',v,e1,e2,hp⟩
 ·rw[e1,e2];rfl
 ·rw[e1,e2];exact hp
theorem UW{β:Type}{P:Str→β→Value→Prop}{cs:List (Str×β)}{d:Addr}{tk:Tok}{dflt:Value}(S:St ai ae L s l aa)(D:Dc af w aa d P cs)(h:∀v s',(match aM cs x with|some b=>P x b v|none=>v=dflt)→St ai ae L s' l aa→Q v s'):wpAny (model af w) A (call (.builtin "dict.get") [.ref d,.str x tk,dflt]) Q E s:=by
 refine aP D.ex fun o aD z1=>aO z1 fun a b c=>?_
 clear z1
 refine kdg_get2 (knd:=PySem.strKind af w) S.N a b D.lo (strKind_is _ _ _ _) _ rfl (h _ _ ?_ S.tick)
 rcases c.look x with⟨e1,e2⟩|⟨b',v,e1,e2,hp⟩
 ·rw[e1,e2];rfl
 ·rw[e1,e2];exact hp
end
section
theorem Cx.VV{K:Addr}{vs:List Value}(C:Cx gx aH A ae aE az L (dp+1) (un+3)):Cx gx aH (A.under (.builtin "type.__call__" ⟨.ref K::vs,[]⟩)) ae aE az L dp un:=
 ⟨C.B,C.X,C.T,C.hA,C.hf,C.hk,C.hh,by show A.depth+1+dp<_;have:=C.hd;exact OJ this,by show A.units+1+un<_;have:=C.hu;exact xfj this⟩
theorem Q5{K:Frag}{C f:Addr}(g:gk K C f=true):keepIn K (.ref C)=true:=by
 unfold gk at g
 exact(Bool.and_eq_true_iff.mp g).2
theorem kw{K f:Addr}{vs:List Value}(C:Cx gx aH A ae aE az L (dp+1) (un+3))(S:St ai ae L s l aa)(g:gk (KF gx.gw.params) K f=true)(h:∀A' x dx s',Cx gx aH A' ae aE az L dp un→St ai ae L s' l ((x,instObj K dx)::(dx,dictOf [] 0)::aa)→(∀p∈aa,p.1<dx)→dx<x→
      codeAny (model af gx.gw) A' (.call (.ref f) ⟨.ref x::vs,[]⟩) (InitBack x (kC Q E)) s'):
  wpAny (model af gx.gw) A (call (.ref K) vs) Q E s:=by
 unfold gk at g
 obtain⟨g,g4⟩:=Bool.and_eq_true_iff.mp g
 obtain⟨g,g3⟩:=Bool.and_eq_true_iff.mp g
 obtain⟨g1,g2⟩:=Bool.and_eq_true_iff.mp g
 refine call_cls S.F C.X S.N g1 (beq_iff_eq.mp g2) g3 fun x dx h' F' N' l1 l2=>h _ x dx {s with heap:=h'} C.VV ⟨F',N',?_,by rw[S.R]⟩ l1 l2
 have hd:dx∉aa.map (·.1):=fun hm=>by obtain⟨p,hp,e⟩:=List.mem_map.mp hm;exact absurd (l1 p hp) (by rw[e];exact Nat.lt_irrefl _)
 have hx:x∉aa.map (·.1):=fun hm=>by obtain⟨p,hp,e⟩:=List.mem_map.mp hm;exact absurd (Nat.lt_trans (l1 p hp) l2) (by rw[e];exact Nat.lt_irrefl _)
 rw[List.map_cons,List.map_cons]
 refine List.nodup_cons.mpr ⟨fun hm=>?_,List.nodup_cons.mpr ⟨hd,S.D⟩⟩
 rcases List.mem_cons.mp hm with e|hm
 ·exact absurd l2 (by rw[show x=dx from e];exact Nat.lt_irrefl _)
 ·exact hx hm
theorem xhu{np:Pos}{K f:Addr}{e:Expr}(C:Cx gx aH A ae aE az L dp un)(S:St ai ae L s l aa)(hg:nsIn (KF gx.gw.params) mainGlobals x=some (some (.ref K)))(g:gk (KF gx.gw.params) K f=true)(h:wpAny (model af gx.gw) A (spliced (backTo aI (starEach (e::aJ) (envX name aq L a cd cl)))) (fun vs aL=>(KF gx.gw.params).In aL.heap∧wpAny (model af gx.gw) A (call (.ref K) vs) Q E aL) E s)(he:autoParam (starEach (e::aJ) (envX name aq L a cd cl)=(false,eval e (envX name aq L a cd cl))::starEach aJ (envX name aq L a cd cl)) rf)(eS:autoParam ((backTo aI (starEach aJ (envX name aq L a cd cl))).any (·.1)=false) rf)(hk:autoParam (aq.kind= .function) kr)(hl:autoParam ((envX name aq L a cd cl).kindOf x=some .globalImplicit) kr)(hd:autoParam ((x==q "__debug__")=false) kr):
  wpAny (model af gx.gw) A (eval (.Call (.Name x np) (e::aJ) [] aI) (envX name aq L a cd cl)) Q E s:=
 O8 C S ⟨hg,Q5 g⟩ h he eS (hk:=hk) (hl:=hl) (hd:=hd)
theorem iJ{np:Pos}{K f:Addr}{e:Expr}(C:Cx gx aH A ae aE az L dp un)(S:St ai ae L s l aa)(hg:nsIn (KF gx.gw.params) mainGlobals x=some (some (.ref K)))(g:gk (KF gx.gw.params) K f=true)(h:wpAny (model af gx.gw) A (spliced (backTo aI (starEach (e::aJ) (envX name aq L a cd cl)))) (fun vs aL=>(KF gx.gw.params).In aL.heap∧wpAny (model af gx.gw) A (call (.ref K) vs) Q E aL) E s)(he:autoParam (starEach (e::aJ) (envX name aq L a cd cl)=(false,eval e (envX name aq L a cd cl))::starEach aJ (envX name aq L a cd cl)) rf)(eS:autoParam ((backTo aI (starEach aJ (envX name aq L a cd cl))).any (·.1)=false) rf)(hq:autoParam ((aq.kind,aq.names.lookup x,x==q "__debug__")=(.function,some .globalImplicit,false)) kr):wpAny (model af gx.gw) A (eval (.Call (.Name x np) (e::aJ) [] aI) (envX name aq L a cd cl)) Q E s:=xhu C S hg g h he eS (hk:=t1 hq) (hl:=t1 (t2 hq)) (hd:=t2 (t2 hq))
theorem xht{np:Pos}{K f:Addr}(C:Cx gx aH A ae aE az L dp un)(S:St ai ae L s l aa)(hg:nsIn (KF gx.gw.params) mainGlobals x=some (some (.ref K)))(g:gk (KF gx.gw.params) K f=true)(h:wpAny (model af gx.gw) A (call (.ref K) []) Q E s)(hk:autoParam (aq.kind= .function) kr)(hl:autoParam ((envX name aq L a cd cl).kindOf x=some .globalImplicit) kr)(hd:autoParam ((x==q "__debug__")=false) kr):
  wpAny (model af gx.gw) A (eval (.Call (.Name x np) [] [] aI) (envX name aq L a cd cl)) Q E s:=
 wpAny_Call_ofName (Gq C S hg (callWith_K0 (C.X.keeps S.F.keep) (Q5 g) h) (hk:=hk) (hl:=hl) (hd:=hd))
theorem O7{np:Pos}{K f:Addr}(C:Cx gx aH A ae aE az L dp un)(S:St ai ae L s l aa)(hg:nsIn (KF gx.gw.params) mainGlobals x=some (some (.ref K)))(g:gk (KF gx.gw.params) K f=true)(h:wpAny (model af gx.gw) A (call (.ref K) []) Q E s)(hq:autoParam ((aq.kind,aq.names.lookup x,x==q "__debug__")=(.function,some .globalImplicit,false)) kr):wpAny (model af gx.gw) A (eval (.Call (.Name x np) [] [] aI) (envX name aq L a cd cl)) Q E s:=xht C S hg g h (hk:=t1 hq) (hl:=t1 (t2 hq)) (hd:=t2 (t2 hq))
theorem iE{vs:List Value}(C:Cx gx aH A ae aE az L dp un)(S:St ai ae L s l aa)(h:wpAny (model af gx.gw) A (call v vs) Q E s):(KF gx.gw.params).In s.heap∧wpAny (model af gx.gw) A (call v vs) Q E s:=⟨C.X.keeps S.F.keep,h⟩
theorem bN{x dx K:Addr}{od:Obj}{g:Obj→List (Addr×Obj)}{Q:Unit→Shared→Prop}(C:Cx gx aH A ae aE az L dp un)(S:St ai ae L s l aa)(gs:uB (KF gx.gw.params) K nm=true)(m1:(x,instObj K dx)∈aa)(hA:bG od al)(hz:al.length<1000)(u:∀o',Up dx od o' aa (g o'))(h:∀dM s',bG dM ((nm,v)::al)→St ai ae L s' l (g dM)→Q () s'):wpAny (model af gx.gw) A (setAttr (.ref x) nm v) Q E s:=by
 refine aP hA fun es n z1=>aO z1 fun z2 hg hle=>?_
 clear hA z1
 subst z2
 unfold uB at gs
 obtain⟨gs,g4⟩:=Bool.and_eq_true_iff.mp gs
 obtain⟨gs,g3⟩:=Bool.and_eq_true_iff.mp gs
 obtain⟨g1,g2⟩:=Bool.and_eq_true_iff.mp gs
 have H4:=bG.add (n:=n) ⟨hg,hle⟩ nm (PyData.keyHash gx.gw.params nm) (s.toks+1) v
 have u':=u (dictOf (putL nm (PyData.keyHash gx.gw.params nm) (.str nm (s.toks+1)) v es) (putN nm es n))
 refine set_dict S.F C.X S.N (InstAt.of_news S.N m1 u'.mem) rfl (beq_iff_eq.mp g1) g2 (beq_iff_eq.mp g3) g4 (by rw[hg];rfl) rfl (u'.iK S.D) ?_ (fun h' F' N'=>h _ _ H4 ⟨F',N',u'.keys▸S.D,by rw[S.R]⟩)
 have:=Go nm (PyData.keyHash gx.gw.params nm) (.str nm (s.toks+1)) v es
 exact Uf hz hle this
theorem Gy{x dx K:Addr}{pre post:List (Str×Value)}{od:Obj}{g:Obj→List (Addr×Obj)}{Q:Unit→Shared→Prop}(C:Cx gx aH A ae aE az L dp un)(S:St ai ae L s l aa)(gs:uB (KF gx.gw.params) K nm=true)(m1:(x,instObj K dx)∈aa)(hA:bG od (pre++(nm,v0)::post))(hp:pre.lookup nm=none)(hz:(pre++(nm,v0)::post).length<1000)(u:∀o',Up dx od o' aa (g o'))(h:∀dM s',bG dM (pre++(nm,v)::post)→St ai ae L s' l (g dM)→Q () s'):wpAny (model af gx.gw) A (setAttr (.ref x) nm v) Q E s:=by
 refine aP hA fun es n z1=>aO z1 fun z2 hg hle=>?_
 clear hA z1
 subst z2
 unfold uB at gs
 obtain⟨gs,g4⟩:=Bool.and_eq_true_iff.mp gs
 obtain⟨gs,g3⟩:=Bool.and_eq_true_iff.mp gs
 obtain⟨g1,g2⟩:=Bool.and_eq_true_iff.mp gs
 have H4:=bG.put (n:=n) ⟨hg,hle⟩ hp (PyData.keyHash gx.gw.params nm) (s.toks+1) v
 have u':=u (dictOf (putL nm (PyData.keyHash gx.gw.params nm) (.str nm (s.toks+1)) v es) (putN nm es n))
 refine set_dict S.F C.X S.N (InstAt.of_news S.N m1 u'.mem) rfl (beq_iff_eq.mp g1) g2 (beq_iff_eq.mp g3) g4 (by rw[hg];rfl) rfl (u'.iK S.D) ?_ (fun h' F' N'=>h _ _ H4 ⟨F',N',u'.keys▸S.D,by rw[S.R]⟩)
 have:=Go nm (PyData.keyHash gx.gw.params nm) (.str nm (s.toks+1)) v es
 exact Uf hz hle this
theorem bH{o:Expr}{attr:Str}{pos':Pos}{value:Expr}{Q:Flow→Shared→Prop}(h:wpAny M A (eval value ev) (fun v aL=>wpAny M A (eval o ev) (fun ov bb=>wpAny M A (setAttr ov attr v) (fun zz=>Q .next) E bb) E aL) E s)(hs:autoParam (swapsWith value (some (.Attribute o attr pos')) aI.line ev=pure false) rf):wpAny M A (exec (.Assign [.Attribute o attr pos'] value aI) ev) Q E s:=plainObj_wpAny_Assign_Attribute h hs
end
noncomputable def uA(n:Int)(t u v:Tok):Obj:={cls:= .type "range",dict:=none,data:= .fields #[.int 0 t,.int n u,.int 1 v],slots:=#[]}
noncomputable def oX(x left:Int):Obj:={cls:= .type "range_iterator",dict:=none,data:= .fields #[rawInt x,rawInt left,rawInt 1],slots:=#[]}
set_option tactic.hygienic true in
theorem Vg {n:Int} (h0:0≤n):Builtin.Range.rangeSize 0 n 1=n:=by
 unfold Builtin.Range.rangeSize
 split
 ·split
  ·rw[Int.sub_zero,Int.ediv_one];exact xfx
  ·omega
 ·rename_i h;exact absurd (by decide) h
theorem xh0{n:Int}(h0:0≤n)(h1:n<1099511627776):Builtin.Range.small 0 n 1=true:=by
 unfold Builtin.Range.small
 rw[Vg h0]
 have e:∀k:Int,0≤k→k<2099511627776→Builtin.Range.rangeFitsLong k=true:=by
  intro k a b
  unfold Builtin.Range.rangeFitsLong
  simp only[Bool.and_eq_true,decide_eq_true_eq]
  exact xfL a b
 rw[e 0 (by decide) (by decide),e n h0 (by exact xfK h1),e 1 (by decide) (by decide)]
 simp only[Bool.and_true,Bool.true_and,Bool.or_eq_true]
 right
 rw[if_pos (by decide)]
 exact e _ (by exact xfJ h0) (by exact xfI h1)
section
theorem St.push(S:St ai ae L s l aa)(o:Obj){tk:Nat}(hf:autoParam (o.isFreed=false) rf):St ai ae L {s with heap:=s.heap.push o,toks:=tk} l ((s.heap.objs.size,o)::aa):=
 ⟨S.F.push _,S.N.push S.F _ hf,S.nd S.lt,by rw[S.R]⟩
theorem jm{n:Int}{t:Tok}(S:St ai ae L s l aa)(h:∀x u v s',St ai ae L s' l ((x,uA n u t v)::aa)→(∀p∈aa,p.1<x)→Q (.ref x) s'):wpAny (model af w) A (call (.type "range") [.int n t]) Q E s:=
 call_range_1 (h _ _ _ _ (S.push (uA n s.toks t (s.toks+1)) (tk:=s.toks+1+1)) S.lt)
end
structure Iter(af:Program)(w:World)(A:Around)(I:Addr)(N:Nat)(O:Nat→Obj→Prop)(item:Nat→Value→Prop)(G:List (Addr×Obj)→Prop):Prop where
 go:∀i (ai s:Shared) ae L l aa oi (Q:Option Value→Shared→Prop) (E:Value→Shared→Prop),i<N→O i oi→G aa→St ai ae L s l ((I,oi)::aa)→
  (∀v s' d8,item i v→O (i+1) d8→St ai ae L s' l ((I,d8)::aa)→Q (some v) s')→wpAny (model af w) A (pyNext (.ref I)) Q E s
 fin:∀(ai s:Shared) ae L l aa oi (Q:Option Value→Shared→Prop) (E:Value→Shared→Prop),O N oi→G aa→St ai ae L s l ((I,oi)::aa)→
  (∀s',St ai ae L s' l aa→Q none s')→wpAny (model af w) A (pyNext (.ref I)) Q E s
 own:∀i (ai s:Shared) ae L l aa oi dU v (Q:Unit→Shared→Prop) (E:Value→Shared→Prop),O i oi→St ai ae L s l ((I,oi)::aa)→Q () s→wpAny (model af w) A (letOwnedTupleGo dU (.ref I) v) Q E s
 self:∀i (ai s:Shared) ae L l aa oi (Q:Value→Shared→Prop) (E:Value→Shared→Prop),O i oi→St ai ae L s l ((I,oi)::aa)→Q (.ref I) s→wpAny (model af w) A (pyIter (.ref I)) Q E s
 mono:∀aa ag,(∀p∈aa,p∈ag)→G aa→G ag
def vZ(ax:Addr)(i:Nat)(o:Obj):Prop:=o.cls= .type "list_iterator"∧o.data= .fields #[.ref ax,.int (i:Nat) 0]
theorem Iter.list{af w A}(hh:A.handled=none)(I ax:Addr)(vs:Array Value)(n:Nat):Iter af w A I vs.size (vZ ax) (fun i v=>vs[i]?=some v) (fun aa=>(ax,listOf vs n)∈aa) where
 go:=fun i ai s ae L l aa oi Q E hi hO hG S k=>by
  have hit:s.heap.IsListIter I ax i:=⟨oi,(S.N _ (.head _)).1,hO.1,hO.2⟩
  have hv:vs[i]?=some vs[i]:=Array.getElem?_eq_getElem hi
  refine wpAny_pyNext_list_item hit (S.lst (.tail _ hG)) hv fun h' jh fi=>aS jh fun d8 z1=>aO z1 fun gB mJ fC=>?_
  clear jh z1
  exact k _ _ d8 hv ⟨mJ,fC⟩ (S.top fi gB)
 fin:=fun ai s ae L l aa oi Q E hO hG S k=>by
  have hit:s.heap.IsListIter I ax vs.size:=⟨oi,(S.N _ (.head _)).1,hO.1,hO.2⟩
  exact wpAny_pyNext_list_end hh hit (S.lst (.tail _ hG)) (by simp) fun h' fi=>k _ (S.uH fi)
 own:=fun i ai s ae L l aa oi dU v Q E hO S k=>PyProof.Rows.letGo_listiter ⟨oi,(S.N _ (.head _)).1,hO.1,hO.2⟩ k
 mono:=fun zz zz h m=>h _ m
 self:=fun i ai s ae L l aa oi Q E hO S k=>wpAny_pyIter_listiter ⟨oi,(S.N _ (.head _)).1,hO.1,hO.2⟩ k
theorem Iter.range{af w A}(hh:A.handled=none)(I:Addr)(n:Int)(h0:0≤n):Iter af w A I n.toNat (fun i o=>o=oX i (n- i)) (fun i v=>∃t,v= .int (i:Int) t) (fun zz=>True) where
 go:=fun i ai s ae L l aa oi Q E hi hO hG S k=>by
  subst hO
  have hit:IsRangeIter s.heap I i (n- i) 1:=(S.N _ (.head _)).1
  refine wpAny_pyNext_range_item hit (by exact xfO hi) fun h' jh fi=>?_
  have e1:((i+1:Nat):Int)=(i:Int)+1:=by push_cast;rfl
  have e2:n- ((i+1:Nat):Int)=n- (i:Int)- 1:=by push_cast;exact xfN
  refine k _ _ _ ⟨_,rfl⟩ rfl ((S.top (o':=oX ((i+1:Nat):Int) (n- (i+1:Nat))) fi ?_).tick)
  rw[e2,e1];exact jh
 fin:=fun ai s ae L l aa oi Q E hO hG S k=>by
  subst hO
  have hit:IsRangeIter s.heap I n.toNat (n- n.toNat) 1:=(S.N _ (.head _)).1
  exact wpAny_pyNext_range_end hh hit (by exact xfM) fun h' fi=>k _ (S.uH fi)
 own:=fun i ai s ae L l aa oi dU v Q E hO S k=>by
  subst hO
  have hg:=(S.N _ (.head _)).1
  unfold letOwnedTupleGo
  cases dU<;>first
   |exact wpAny_pure k
   |(cases v<;>first
     |exact wpAny_pure k
     |(refine wpAny_bind (wpAny_load hg ?_);exact wpAny_pure k))
 mono:=fun zz zz zz h=>h
 self:=fun i ai s ae L l aa oi Q E hO S k=>by
  subst hO
  exact wpAny_pyIter_rangeiter (S.N _ (.head _)).1 k
section
theorem dg{ax:Addr}{vs:Array Value}{n:Nat}(hh:A.handled=none)(S:St ai ae L s l aa)(hm:(ax,listOf vs n)∈aa)(h:∀I oi s',St ai ae L s' l ((I,oi)::aa)→vZ ax 0 oi→Iter af w A I vs.size (vZ ax) (fun i v=>vs[i]?=some v) (fun aa=>(ax,listOf vs n)∈aa)→Q (.ref I) s'):wpAny (model af w) A (pyIter (.ref ax)) Q E s:=
 wpAny_pyIter_list (S.lst hm) (h _ _ _ (S.push {cls:= .type "list_iterator",data:= .fields #[.ref ax,.int 0 0]}) ⟨rfl,rfl⟩ (Iter.list hh _ _ _ _))
theorem jl{ax:Addr}{n:Int}{t u v:Tok}(hh:A.handled=none)(S:St ai ae L s l aa)(hm:(ax,uA n t u v)∈aa)(h0:0≤n)(h1:n<1099511627776)(h:∀I oi s',St ai ae L s' l ((I,oi)::aa)→oi=oX (0:Nat) (n- (0:Nat))→Iter af w A I n.toNat (fun i o=>o=oX i (n- i)) (fun i v=>∃t,v= .int (i:Int) t) (fun zz=>True)→Q (.ref I) s'):wpAny (model af w) A (pyIter (.ref ax)) Q E s:=by
 refine wpAny_pyIter_range (S.N _ hm).1 (xh0 h0 h1) ?_
 rw[Vg h0]
 exact h _ (oX 0 n) _ (S.push (oX 0 n)) (by simp) (Iter.range hh _ _ h0)
theorem Gp{dU:Expr}{Q:Flow→Shared→Prop}{I:Addr}{N:Nat}{O:Nat→Obj→Prop}{item:Nat→Value→Prop}{G:List (Addr×Obj)→Prop}{oi:Obj}(W:Iter af w A I N O item G)(S:St ai ae L s l ((I,oi)::aa))(hO:O 0 oi)(J:Nat→List (Str×Value)→List (Addr×Obj)→Prop)(jV:J 0 l aa)(hG:∀i l' ag,J i l' ag→G ag)(step:∀(i:Nat) v s' l' ag it,i<N→item i v→J i l' ag→St ai ae L s' l' (it::ag)→
      wpAny (model af w) A (assign dU ev v) (fun zz bb=>wpAny (model af w) A (execs bL ev) (kL (fun bx=>∃ef bD,St ai ae L bx ef (it::bD)∧J (i+1) ef bD) Q) (notedBy (model af w) A ev (cameBackBy (model af w) A ev E)) bb) (notedBy (model af w) A ev (cameBackBy (model af w) A ev E)) s')(done:∀s' l' ag,J N l' ag→St ai ae L s' l' ag→Q .next s'):
  codeAny (model af w) A (.forLoop dU (.ref I) bL [] ev) (kB (model af w) A ev Q E) s:=by
 refine codeAny_forLoop_any (fun k s'=>∃(i:Nat) (l':List (Str×Value)) (ag:List (Addr×Obj)) (oi:Obj),O i oi∧St ai ae L s' l' ((I,oi)::ag)∧J i l' ag∧i≤N∧k=N+1- i) ?_ (N+1) ⟨0,l,aa,oi,hO,S,jV,Nat.zero_le _,rfl⟩
 rintro k s' ⟨i,l',ag,oi,hO,S',hJ,hi,rfl⟩
 by_cases hv:i<N
 ·refine W.go i _ _ _ _ _ _ _ _ _ hv hO (hG _ _ _ hJ) S' fun v s2 d8 hit kS S2=>W.own (i+1) _ _ _ _ _ _ _ _ _ _ _ kS S2<|wpAny_mono (step i v s2 l' ag (I,d8) hv hit hJ S2) (fun zz bb dS=>wpAny_mono dS (fun f bx cP=>?_) fun zz zz e=>e) fun zz zz e=>e
  exact qp cP fun cP=>by obtain⟨l2,cf,a,b⟩:=cP;exact⟨N+1- (i+1),by exact oN hv,i+1,l2,cf,d8,kS,a,b,hv,rfl⟩
 ·have e:i=N:=by exact OK hi hv
  subst e
  exact W.fin _ _ _ _ _ _ _ _ _ hO (hG _ _ _ hJ) S' fun s2 S2=>wpAny_execs_nil (done _ l' ag hJ S2)
theorem dF{dU:Expr}{Q:Flow→Shared→Prop}{I:Addr}{N:Nat}{O:Nat→Obj→Prop}{item:Nat→Value→Prop}{G:List (Addr×Obj)→Prop}{oi:Obj}(W:Iter af w A I N O item G)(S:St ai ae L s l ((I,oi)::aa))(hO:O 0 oi)(J:Nat→List (Str×Value)→List (Addr×Obj)→Prop)(jV:J 0 l aa)(hG:∀i l' ag,J i l' ag→G ag)(step:∀(i:Nat) v s' l' ag it,i<N→item i v→J i l' ag→St ai ae L s' l' (it::ag)→
      let K:Flow→Shared→Prop:=kL (fun bx=>∃ef bD,St ai ae L bx ef (it::bD)∧J (i+1) ef bD) Q
      let E':Value→Shared→Prop:=notedBy (model af w) A ev (cameBackBy (model af w) A ev E)
      wpAny (model af w) A (assign dU ev v) (fun zz bb=>wpAny (model af w) A (execs bL ev) K E' bb) E' s')(done:∀s' l' ag,J N l' ag→St ai ae L s' l' ag→Q .next s'):
  codeAny (model af w) A (.forLoop dU (.ref I) bL [] ev) (kB (model af w) A ev Q E) s:=
 Gp W S hO J jV hG step done
theorem U4{px:Pos}{Q:Unit→Shared→Prop}(S:St ai ae L s l aa)(h:∀s',St ai ae L s' ((x,v)::l) aa→Q () s')(hk:autoParam (aq.kind= .function) kr)(hl:autoParam ((envX name aq L a cd cl).kindOf x=some .local) kr):
  wpAny M A (assign (.Name x px) (envX name aq L a cd cl) v) Q E s:=wpAny_assign_Name (jo S h (hk:=hk) (hl:=hl))
theorem eu{px:Pos}{Q:Unit→Shared→Prop}(S:St ai ae L s l aa)(h:∀s',St ai ae L s' ((x,v)::l) aa→Q () s')(hq:autoParam ((aq.kind,aq.names.lookup x)=(.function,some .local)) kr):wpAny M A (assign (.Name x px) (envX name aq L a cd cl) v) Q E s:=U4 S h (hk:=t1 hq) (hl:=t2 hq)
def g8(a:Addr)(o:Obj)(l:List (Str×Value)):Prop:=∀h:Heap,h.get? a=some o→h.Ns a (dY l)
theorem St.swap{Cn:Addr}{on:Obj}{lc:List (Str×Value)}(S:St ai ae L s l ((Cn,on)::aa))(hc:g8 Cn on lc)(ha:ae.objs.size≤Cn):
  ∃oL,g8 L oL l∧ae.objs.size≤L∧St ai ae Cn s lc ((L,oL)::aa):=by
 refine cQ S.F.ns fun oL es ep z1=>ay z1 fun hL r=>?_
 clear z1
 have R5:=S.N (Cn,on) (.head _)
 have nd:=S.D
 rw[List.map_cons,List.nodup_cons] at nd
 refine iu (a:=oL) (aR (fun h e=>⟨oL,es,ep,e,r⟩) S.F.above ⟨⟨hc _ R5.1,S.F.keep,ha⟩,fun p hp=>?_,?_,S.R⟩)
 ·rcases List.mem_cons.mp hp with rfl|hp
  ·refine⟨hL,Ne.symm R5.2.1,?_⟩
   show ae.get? L=none
   cases q:ae.get? L with
   |none=>rfl
   |some o=>exact absurd (Nat.lt_of_lt_of_le (Heap.lt_size q) S.F.above) (Nat.lt_irrefl _)
  ·exact⟨(S.N _ (.tail _ hp)).1,fun e=>nd.1 (by have z:=ka hp;rw[e] at z;exact z),(S.N _ (.tail _ hp)).2.2⟩
 ·rw[List.map_cons,List.nodup_cons]
  refine⟨fun hm=>?_,nd.2⟩
  refine aS (List.mem_map.mp hm) fun p z1=>ay z1 fun hp e=>?_
  clear z1
  exact(S.N _ (.tail _ hp)).2.1 e
end
section
theorem xag{elt target iter:Expr}{ifs:List Expr}{it acc:Value}(I:Nat→Shared→Prop)(turn:∀n s,I n s→wpAny (model af w) A (pyNext it) (fun r aL=>match r with
      |none=>R (.ok .next) aL
      |some v=>wpAny (model af w) A (letOwnedTupleGo target it v) (fun zz aL=>wpAny (model af w) A (assign target az v) (fun zz bb=>
          wpAny (model af w) A (forIn ifs true fun c r=>if r=true then do let ok←isTrue c az (eval c az);pure (ForInStep.yield ok) else pure (ForInStep.yield r)) (fun ok bx=>
            if ok=true then wpAny (model af w) A (eval elt az) (fun x ky=>
              wpAny (model af w) A (call (.builtin "list.append") [acc,x]) (fun zz VN=>∃m,m<n∧I m VN) (notedBy (model af w) A az fun e s'=>R (.error e) s') ky) (notedBy (model af w) A az fun e s'=>R (.error e) s') bx
            else∃m,m<n∧I m bx) (notedBy (model af w) A az fun e s'=>R (.error e) s') bb) (notedBy (model af w) A az fun e s'=>R (.error e) s') aL) (notedBy (model af w) A az fun e s'=>R (.error e) s') aL) (notedBy (model af w) A az fun e s'=>R (.error e) s') s)(n:Nat)(h:I n s):
  codeAny (model af w) A (.compLoop (.ListComp elt [⟨target,iter,ifs,0⟩] aq aI) 0 it acc az) R s:=by
 refine codeAny_loop rfl I (fun n s hI=>?_) n h
 show wpAny _ A ((compTurn (.ListComp elt [⟨target,iter,ifs,0⟩] aq aI) 0 it acc az).onRaise (fun x=>do noteFrame x az;theTreesLotGoes x)) _ _ s
 refine wpAny_noted ?_
 rw[compTurn_list]
 refine wpAny_bind (wpAny_standAt (wpAny_bind (wpAny_mono (turn n s hI) (fun r aL dD=>?_) fun zz zz h'=>h')))
 cases r with
 |none=>exact wpAny_pure dD
 |some v=>
  refine wpAny_bind (wpAny_mono dD (fun zz aL dD=>?_) fun zz zz h'=>h')
  refine wpAny_bind (wpAny_mono dD (fun zz bb dS=>wpAny_bind (wpAny_mono dS (fun ok bx cP=>?_) fun zz zz h'=>h')) fun zz zz h'=>h')
  cases ok with
  |false=>exact wpAny_pure ⟨rfl,cP⟩
  |true=>
   exact wpAny_bind (wpAny_bind (wpAny_mono cP (fun x ky By=>wpAny_bind (wpAny_mono By (fun zz VN xdT=>wpAny_pure (wpAny_pure ⟨rfl,xdT⟩)) fun zz zz h'=>h')) fun zz zz h'=>h'))
noncomputable abbrev tests(uW:Env)(ifs:List Expr):Sem Bool:=forIn ifs true fun c r=>if r=true then do let ok←isTrue c uW (eval c uW);pure (ForInStep.yield ok) else pure (ForInStep.yield r)
theorem Rh{elt dU iter:Expr}{ifs:List Expr}{I:Addr}{N:Nat}{O:Nat→Obj→Prop}{item:Nat→Value→Prop}{G:List (Addr×Obj)→Prop}{oi:Obj}{RR:Value→Addr→Result→Shared→Prop}(W:Iter af w A I N O item G)(S:St ai ae L s l ((I,oi)::aa))(hO:O 0 oi)(hN:N≤sizeLine)(jX:∀y∈aq.names,y.2≠.cell)(J:Nat→List Value→List (Addr×Obj)→Prop)(jV:J 0 [] aa)(hG:∀i ys ag,J i ys ag→G ag)(step:∀(i:Nat) v s' lc ys k D Cn oL ag it EE,i<N→item i v→J i ys ag→g8 L oL l→ae.objs.size≤L→ae.objs.size≤Cn→St ai ae Cn s' lc (it::(D,listOf ys.toArray k)::(L,oL)::ag)→
      wpAny (model af w) A (assign dU (compEnvC aq cl Cn ev) v) (fun zz bb=>wpAny (model af w) A (tests (compEnvC aq cl Cn ev) ifs) (fun ok bx=>
        if ok=true then wpAny (model af w) A (eval elt (compEnvC aq cl Cn ev)) (fun y ky=>∃iF eF bD,St ai ae Cn ky iF (it::(D,listOf ys.toArray k)::(L,eF)::bD)∧g8 L eF l∧J (i+1) (ys++[y]) bD) EE bx
        else∃iF eF bD,St ai ae Cn bx iF (it::(D,listOf ys.toArray k)::(L,eF)::bD)∧g8 L eF l∧J (i+1) ys bD) EE bb) EE s')(done:∀D Cn on lc ys k ag s',J N ys ag→g8 Cn on lc→St ai ae L s' l ((Cn,on)::(D,listOf ys.toArray k)::ag)→RR (.ref D) Cn (.ok .next) s')(gz:autoParam (aq.kind= .function) kr):
  wpAny (model af w) A (newList []) (fun acc bx=>wpAny (model af w) A (newFunctionEnv aq ev.globals cl [] ev.qual none .none (some ev)) (fun uW ky=>
   codeAny (model af w) A (.compStart (.ListComp elt [⟨dU,iter,ifs,0⟩] aq aI) 0 (.ref I) acc {uW with scope:=relabel aq ev}) (RR acc uW.locals) ky) E bx) E s:=by
 refine dm S (by simp) fun D s1 S1 zz=>?_
 refine wpAny_newFunctionEnv jX (by intro y hy;simp at hy) (fun dD kX hsb=>?_) gz
 have above:ae.objs.size≤s1.heap.objs.size:=by
  refine cQ S1.F.ns fun o es ep z1=>ay z1 fun ho z2=>?_
  clear z1
  exact Nat.le_trans S1.F.above (Nat.le_of_lt (Heap.lt_size ho))
 refine cQ kX fun on es ep z1=>ay z1 fun hon rn=>?_
 clear kX z1
 have vz:g8 s1.heap.objs.size on []:=fun h e=>⟨on,es,ep,e,rn⟩
 have S2:St ai ae L {s1 with heap:=dD,toks:=s1.toks+([]:List (Str×Value)).length} l ((s1.heap.objs.size,on)::(D,listOf ([]:List Value).toArray 0)::(I,oi)::aa):=by
  have Sp:=S1.push (tk:=s1.toks) {cls:= .type (if (some ev).isSome then "dict" else "frame"),data:= .dict #[]}
  exact(Sp.top hsb hon).tick
 generalize s1.heap.objs.size=Cn at*
 have loop:∀s3,s3=({s1 with heap:=dD,toks:=s1.toks+([]:List (Str×Value)).length}:Shared)→
   codeAny (model af w) A (.compLoop (.ListComp elt [⟨dU,iter,ifs,0⟩] aq aI) 0 (.ref I) (.ref D) (compEnvC aq cl Cn ev)) (RR (.ref D) Cn) s3:=by
  rintro s3 rfl
  refine aS (S2.swap vz above) fun oL z1=>aO z1 fun hL jx S3=>?_
  clear z1
  have S4:St ai ae Cn {s1 with heap:=dD,toks:=s1.toks+([]:List (Str×Value)).length} [] ((I,oi)::(D,listOf ([]:List Value).toArray 0)::(L,oL)::aa):=S3.perm (by
   refine(List.Perm.swap _ _ _).trans<|(List.Perm.cons _ (List.Perm.swap _ _ _)).trans ?_
   exact List.Perm.swap _ _ _)
  refine xag (fun k s'=>∃(i:Nat) (lc:List (Str×Value)) (ys:List Value) (kk:Nat) (oi oL:Obj) (ag:List (Addr×Obj)),O i oi∧ys.length≤i∧St ai ae Cn s' lc ((I,oi)::(D,listOf ys.toArray kk)::(L,oL)::ag)∧g8 L oL l∧J i ys ag∧i≤N∧k=N+1- i) ?_ (N+1)
   ⟨0,[],[],0,oi,oL,aa,hO,Nat.zero_le _,S4,hL,jV,Nat.zero_le _,rfl⟩
  rintro k s' ⟨i,lc,ys,kk,oi,oL,ag,hO,dh,S',hL,hJ,hi,rfl⟩
  by_cases hv:i<N
  ·refine W.go i _ _ _ _ _ _ _ _ _ hv hO (W.mono _ _ (fun p hp=> .tail _ (.tail _ hp)) (hG _ _ _ hJ)) S' fun v s2 d8 hit kS S2=>W.own (i+1) _ _ _ _ _ _ _ _ _ _ _ kS S2<|wpAny_mono (step i v s2 lc ys kk D Cn oL ag (I,d8) _ hv hit hJ hL jx above S2) (fun zz bb dS=>wpAny_mono dS (fun ok bx cP=>?_) fun zz zz e=>e) fun zz zz e=>e
   cases ok with
   |false=>
    simp only[Bool.false_eq_true,if_false] at cP ⊢
    refine cQ cP fun iF eF bD z1=>aO z1 fun Sn HW HU=>?_
    clear cP z1
    exact iu (a:=N+1- (i+1)) (bC (by exact oN hv) (Wa (a:=i+1) (b:=iF) (c:=ys) (d:=kk) (e:=d8) (f:=eF) (g:=bD) (pq kS (by exact xfR dh) Sn HW HU hv rfl)))
   |true=>
    simp only[if_true] at cP ⊢
    refine wpAny_mono cP (fun y ky By=>?_) fun zz zz e=>e
    refine cQ By fun iF eF bD z1=>aO z1 fun Sn HW HU=>?_
    clear By z1
    refine fb Sn (.tail .head) (by simp;exact xfQ hN dh hv) fun s5 S5=>?_
    refine iu (a:=N+1- (i+1)) (bC (by exact oN hv) (Wa (a:=i+1) (b:=iF) (c:=ys++[y]) (d:=kk+1) (e:=d8) (f:=eF) (g:=bD) (pq kS (by simp;exact xfP dh) ?_ HW HU hv rfl)))
    simpa using S5
  ·have e:i=N:=by exact OK hi hv
   subst e
   refine W.fin _ _ _ _ _ _ _ _ _ hO (W.mono _ _ (fun p hp=> .tail _ (.tail _ hp)) (hG _ _ _ hJ)) S' fun s2 S2=>aS ((S2.perm (List.Perm.swap _ _ _)).swap hL jx) fun on' z1=>aO z1 fun hn' z2 S3=>?_
   clear z1
   exact done D Cn on' lc ys kk ag s2 hJ hn' S3
 exact codeAny_compStart_list (loop _ rfl) (W.self 0 _ _ _ _ _ _ _ _ _ hO ((S2.perm (by
  refine(List.Perm.cons _ (List.Perm.swap _ _ _)).trans ?_
  exact List.Perm.swap _ _ _):St ai ae L _ l ((I,oi)::_))) (loop _ rfl))
end
section
theorem St.VS{x:Addr}{h':Heap}(S:St ai ae L s l ((x,o)::aa))(hs:Heap.SameBut x s.heap h'):St ai ae L {s with heap:=h'} l aa:=S.uH hs.extBut
theorem Au{elt dU iter:Expr}{ifs:List Expr}(Ia:closureFor aq ev=pure cl)(jX:∀y∈aq.names,y.2≠.cell)(Iz:∀y∈aq.names,y.2= .local→aq.names.lookup y.1=some .local)(h:wpAny (model af w) A (eval iter ev) (fun x aL=>wpAny (model af w) A (pyIter x) (fun it bb=>∃(ae:Heap) (L:Addr) (l:List (Str×Value)) (aa:List (Addr×Obj)) (I:Addr) (N:Nat) (O:Nat→Obj→Prop) (item:Nat→Value→Prop) (G:List (Addr×Obj)→Prop) (oi:Obj) (J:Nat→List Value→List (Addr×Obj)→Prop) (ai:Shared),it= .ref I∧Iter af w A I N O item G∧St ai ae L bb l ((I,oi)::aa)∧O 0 oi∧N≤sizeLine∧
      J 0 [] aa∧(∀i ys ag,J i ys ag→G ag)∧
      (∀(i:Nat) (v:Value) (s':Shared) (lc:List (Str×Value)) (ys:List Value) (k:Nat) (D Cn:Addr) (oL:Obj) (ag:List (Addr×Obj)) (it:Addr×Obj) (EE:Value→Shared→Prop),i<N→item i v→J i ys ag→g8 L oL l→ae.objs.size≤L→ae.objs.size≤Cn→St ai ae Cn s' lc (it::(D,listOf ys.toArray k)::(L,oL)::ag)→
        wpAny (model af w) A (assign dU (compEnvC aq cl Cn ev) v) (fun zz bb=>wpAny (model af w) A (tests (compEnvC aq cl Cn ev) ifs) (fun ok bx=>
          if ok=true then wpAny (model af w) A (eval elt (compEnvC aq cl Cn ev)) (fun y ky=>∃iF eF bD,St ai ae Cn ky iF (it::(D,listOf ys.toArray k)::(L,eF)::bD)∧g8 L eF l∧J (i+1) (ys++[y]) bD) EE bx
          else∃iF eF bD,St ai ae Cn bx iF (it::(D,listOf ys.toArray k)::(L,eF)::bD)∧g8 L eF l∧J (i+1) ys bD) EE bb) EE s')∧
      (∀(D:Addr) (ys:List Value) (k:Nat) (ag:List (Addr×Obj)) (s':Shared),J N ys ag→St ai ae L s' l ((D,listOf ys.toArray k)::ag)→Q (.ref D) s')) E aL) E s)(hs:autoParam (∀x,foldedSetIterable iter ev x=pure x) ir)(gz:autoParam (aq.kind= .function) kr):
  wpAny (model af w) A (eval (.ListComp elt [⟨dU,iter,ifs,0⟩] aq aI) ev) Q E s:=by
 rw[eval_ListComp]
 refine wpAny_comprehension_free (use:=none) rfl hs Ia gz Iz (wpAny_mono h (fun xv aL dD=>wpAny_mono dD (fun it bb dS=>?_) fun zz zz e=>e) fun zz zz e=>e)
 refine V8 dS fun ae L l aa I N O item G oi J ai z1=>PV z1 fun z2 W S hO hN jV hG step done=>?_
 clear dS z1
 subst z2
 refine Rh (RR:=fun acc C=>compPost (model af w) A E none Q acc C) W S hO hN jX J jV hG step ?_ (gz:=gz)
 intro D Cn on lc ys k ag s' hJ vz S'
 have hn:=vz _ (S'.N _ (.head _)).1
 exact⟨_,hn,fun h' fi=>done D ys k ag _ hJ (S'.VS fi)⟩
theorem US{im:Scope}{iC:List (Str×Addr)}{elt dU iter:Expr}{ifs:List Expr}{py VJ:Pos}{Q:Flow→Shared→Prop}(hk:im.kind= .function)(Ia:closureFor aq (envX name im L a cd iC)=pure cl)(jX:∀y∈aq.names,y.2≠.cell)(Iz:∀y∈aq.names,y.2= .local→aq.names.lookup y.1=some .local)(h:wpAny (model af w) A (eval iter (envX name im L a cd iC)) (fun x aL=>wpAny (model af w) A (pyIter x) (fun it bb=>∃(ae:Heap) (l:List (Str×Value)) (aa:List (Addr×Obj)) (I:Addr) (N:Nat) (O:Nat→Obj→Prop) (item:Nat→Value→Prop) (G:List (Addr×Obj)→Prop) (oi:Obj) (J:Nat→List Value→List (Addr×Obj)→Prop) (ai:Shared),it= .ref I∧Iter af w A I N O item G∧St ai ae L bb l ((I,oi)::aa)∧O 0 oi∧N≤sizeLine∧
      J 0 [] aa∧(∀i ys ag,J i ys ag→G ag)∧
      (∀(i:Nat) (v:Value) (s':Shared) (lc:List (Str×Value)) (ys:List Value) (k:Nat) (D Cn:Addr) (oL:Obj) (ag:List (Addr×Obj)) (it:Addr×Obj) (EE:Value→Shared→Prop),i<N→item i v→J i ys ag→g8 L oL l→ae.objs.size≤L→ae.objs.size≤Cn→St ai ae Cn s' lc (it::(D,listOf ys.toArray k)::(L,oL)::ag)→
        wpAny (model af w) A (assign dU (compEnvC aq cl Cn (envX name im L a cd iC)) v) (fun zz bb=>wpAny (model af w) A (tests (compEnvC aq cl Cn (envX name im L a cd iC)) ifs) (fun ok bx=>
          if ok=true then wpAny (model af w) A (eval elt (compEnvC aq cl Cn (envX name im L a cd iC))) (fun y ky=>∃iF eF bD,St ai ae Cn ky iF (it::(D,listOf ys.toArray k)::(L,eF)::bD)∧g8 L eF l∧J (i+1) (ys++[y]) bD) EE bx
          else∃iF eF bD,St ai ae Cn bx iF (it::(D,listOf ys.toArray k)::(L,eF)::bD)∧g8 L eF l∧J (i+1) ys bD) EE bb) EE s')∧
      (∀(D:Addr) (ys:List Value) (k:Nat) (ag:List (Addr×Obj)) (s':Shared),J N ys ag→St ai ae L s' ((y,.ref D)::l) ((D,listOf ys.toArray k)::ag)→Q .next s')) E aL) E s)(IH:autoParam (swapsWith (.ListComp elt [⟨dU,iter,ifs,0⟩] aq aI) (some (.Name y py)) VJ.line (envX name im L a cd iC)=pure true) rf)(hs:autoParam (∀x,foldedSetIterable iter (envX name im L a cd iC) x=pure x) ir)(hy:autoParam ((envX name im L a cd iC).kindOf y=some .local) kr)(gz:autoParam (aq.kind= .function) kr):
  wpAny (model af w) A (exec (.Assign [.Name y py] (.ListComp elt [⟨dU,iter,ifs,0⟩] aq aI) VJ) (envX name im L a cd iC)) Q E s:=by
 rw[exec_Assign_Name_used _ _ _ _ IH]
 refine wpAny_bind (wpAny_standAt (wpAny_bind ?_))
 show wpAny _ A (do let _←comprehension (.ListComp elt [⟨dU,iter,ifs,0⟩] aq aI) aq (envX name im L a cd iC) _ (newList []) false (eval iter (envX name im L a cd iC)) (some (assign (.Name y py) (envX name im L a cd iC)))) _ _ s
 refine wpAny_bind (wpAny_mono (Q:=fun zz s'=>Q .next s') ?_ (fun zz s' hq=>wpAny_pure (wpAny_pure hq)) fun zz zz e=>e)
 refine wpAny_comprehension_free (use:=some (assign (.Name y py) (envX name im L a cd iC))) (Q:=fun zz s'=>Q .next s') rfl hs Ia gz Iz
  (wpAny_mono h (fun xv aL dD=>wpAny_mono dD (fun it bb dS=>?_) fun zz zz e=>e) fun zz zz e=>e)
 refine kG dS fun ae l aa I N O item G oi J ai z1=>PV z1 fun z2 W S hO hN jV hG step done=>?_
 clear dS z1
 subst z2
 refine Rh (RR:=fun acc C=>compPost (model af w) A E (some (assign (.Name y py) (envX name im L a cd iC))) (fun zz s'=>Q .next s') acc C) W S hO hN jX J jV hG step ?_ (gz:=gz)
 intro D Cn on lc ys k ag s' hJ vz S'
 show wpAny _ A (assign (.Name y py) (envX name im L a cd iC) (.ref D)) _ _ _
 refine U4 S' (hk:=hk) (hl:=hy) fun s2 S2=>?_
 have hn:=vz _ (S2.N _ (.head _)).1
 exact⟨_,hn,fun h' fi=>done D ys k ag _ hJ (S2.VS fi)⟩
theorem lj(S:St ai ae L s l aa)(hL:ev.locals=L)(hv:l.lookup x=some v)(h:Q v s)(hk:autoParam (ev.scope.kind= .function) kr)(hl:autoParam (ev.kindOf x=some .local) kr)(hd:autoParam ((x==q "__debug__")=false) kr):
  wpAny M A (eval (.Name x aI) ev) Q E s:=by
 subst hL
 exact wpAny_Name (wpAny_loadName_local hk hl S.F.ns hv h) hd
theorem xkB(S:St ai ae L s l aa)(hL:ev.locals=L)(hv:l.lookup x=some v)(h:Q v s)(hq:autoParam ((ev.scope.kind,ev.scope.names.lookup x,x==q "__debug__")=(.function,some .local,false)) kr):wpAny M A (eval (.Name x aI) ev) Q E s:=lj S hL hv h (hk:=t1 hq) (hl:=t1 (t2 hq)) (hd:=t2 (t2 hq))
theorem uz{c:Addr}(S:St ai ae L s l aa)(hc:ev.cells.lookup x=some c)(hm:(c,o)∈aa)(ho:o.data= .cell (some v))(h:Q v s)(hk:autoParam (ev.scope.kind= .function) kr)(hl:autoParam (ev.kindOf x=some .cell) kr)(hd:autoParam ((x==q "__debug__")=false) kr):
  wpAny M A (eval (.Name x aI) ev) Q E s:=wpAny_Name (wpAny_loadName_cell hk hl hc ⟨o,(S.N _ hm).1,ho⟩ h) hd
theorem xkz{c:Addr}(S:St ai ae L s l aa)(hc:ev.cells.lookup x=some c)(hm:(c,o)∈aa)(ho:o.data= .cell (some v))(h:Q v s)(hq:autoParam ((ev.scope.kind,ev.scope.names.lookup x,x==q "__debug__")=(.function,some .cell,false)) kr):wpAny M A (eval (.Name x aI) ev) Q E s:=uz S hc hm ho h (hk:=t1 hq) (hl:=t1 (t2 hq)) (hd:=t2 (t2 hq))
theorem Vf(X:(KF w.params).In ae)(T:Top p dT BP mg mb ae)(S:St ai ae L s l aa)(hG:ev.globals=mainGlobals)(hg:nsIn (KF w.params) mainGlobals x=some (some v))(h:Q v s)(hk:autoParam (ev.scope.kind= .function) kr)(hl:autoParam (ev.kindOf x=some .globalImplicit) kr)(hd:autoParam ((x==q "__debug__")=false) kr):wpAny (model af w) A (eval (.Name x aI) ev) Q E s:=
 Name_function_global hk hl (loadGlobal_global (env:=ev) (by rw[hG];exact(topRead_of T).g.keeps S.F.keep) (mg_of X (topRead_of T).g hg) h) hd
theorem xkA(X:(KF w.params).In ae)(T:Top p dT BP mg mb ae)(S:St ai ae L s l aa)(hG:ev.globals=mainGlobals)(hg:nsIn (KF w.params) mainGlobals x=some (some v))(h:Q v s)(hq:autoParam ((ev.scope.kind,ev.scope.names.lookup x,x==q "__debug__")=(.function,some .globalImplicit,false)) kr):wpAny (model af w) A (eval (.Name x aI) ev) Q E s:=Vf X T S hG hg h (hk:=t1 hq) (hl:=t1 (t2 hq)) (hd:=t2 (t2 hq))
theorem mf{px:Pos}{Q:Unit→Shared→Prop}(S:St ai ae L s l aa)(hL:ev.locals=L)(h:∀s',St ai ae L s' ((x,v)::l) aa→Q () s')(hk:autoParam (ev.scope.kind= .function) kr)(hl:autoParam (ev.kindOf x=some .local) kr):
  wpAny M A (assign (.Name x px) ev v) Q E s:=by
 subst hL
 refine wpAny_assign_Name (wpAny_storeName_local hl S.F.ns (fun h' hn hs=>h _ (S.to (BL x v l▸S.F.set hn hs) (S.N.set hs) S.D)) ?_)
 rw[hk];rfl
theorem xkC{px:Pos}{Q:Unit→Shared→Prop}(S:St ai ae L s l aa)(hL:ev.locals=L)(h:∀s',St ai ae L s' ((x,v)::l) aa→Q () s')(hq:autoParam ((ev.scope.kind,ev.scope.names.lookup x)=(.function,some .local)) kr):wpAny M A (assign (.Name x px) ev v) Q E s:=mf S hL h (hk:=t1 hq) (hl:=t2 hq)
end
section
theorem lB:emptyDict.IsDictOf (PySem.strKind af w) []:=by
 refine aS (Heap.dictOf_iff.mp (Heap.DictOf.new (knd:=PySem.strKind af w) (default:Heap))) fun o z1=>ay z1 fun ho hd=>?_
 clear z1
 rw[Heap.get?_push_size _ rfl] at ho
 have e:emptyDict=o:=Option.some.inj ho
 rw[e];exact hd
theorem i5(C:Cx gx aH A ae aE az L dp un)(S:St ai ae L s l aa)(h:∀d s',St ai ae L s' l ((d,emptyDict)::aa)→(∀p∈aa,p.1<d)→(d==sysModules)=false→Q (.ref d) s'):wpAny (model af gx.gw) A (eval (.Dict [] [] aI) ev) Q E s:=
 wpAny_Dict_empty (h _ _ (S.push emptyDict (tk:=s.toks)) S.lt (S.F.notModules (modules_low C.T.nolimit)))
end
section
theorem TM{v3:Value}{v4:Value}{v5:Value}(C:Cx gx aH A ae aE az L (dp+2) (un+6))(S:St ai ae L s l aa)(ret:∀x dx od s',St ai ae L s' l ((x,instObj 304 dx)::(dx,od)::aa)→bG od [(q "prototype",v5),(q "virtual",v4),(q "validity",v3),(q "contains",v2),(q "slots",v1),(q "name",v0)]→(∀p∈aa,p.1<dx)→dx<x→Q (.ref x) s'):
  wpAny (model af gx.gw) A (call (.ref 304) [v0,v1,v2,v3,v4,v5]) Q E s:=by
 refine kw C S (Hg _) (fun A x dx s C S l1 l2=>xb5 C S (fun g L1 s C S=>bo ?_))
 intro Kz Ez
 refine ec ?_
 intro Kz
 refine bH ?_
 exists ap S (i1 ah)<|ap S (m4 ah) ?_
 refine bN C S (bU (jQ _) (uD _) (To _) An) mH bG.nil aG (fun o=>(Up.tail Up.head)) (fun Af s h1 S=>ec ?_)
 intro Kz
 refine bH ?_
 exists ap S (bR ah)<|ap S (m4 ah) ?_
 refine bN C S (bU (jQ _) (uD _) (Tq _) OV) mH h1 aG (fun o=>(Up.tail Up.head)) (fun l4 s h2 S=>ec ?_)
 intro Kz
 refine bH ?_
 exists ap S (aV ah)<|ap S (m4 ah) ?_
 refine bN C S (bU (jQ _) (uD _) (Tn _) Uz) mH h2 aG (fun o=>(Up.tail Up.head)) (fun Ag s h3 S=>ec ?_)
 intro Kz
 refine bH ?_
 exists ap S (aB ah)<|ap S (m4 ah) ?_
 refine bN C S (bU (jQ _) (uD _) (aA (aj (qF _))) xg2) mH h3 aG (fun o=>(Up.tail Up.head)) (fun tW s h4 S=>ec ?_)
 intro Kz
 refine bH ?_
 exists ap S (am ah)<|ap S (m4 ah) ?_
 refine bN C S (bU (jQ _) (uD _) (Tr _) UK) mH h4 aG (fun o=>(Up.tail Up.head)) (fun jH s h5 S=>ec ?_)
 intro Kz
 refine bH ?_
 exists ap S ah<|ap S (m4 ah) ?_
 refine bN C S (bU (jQ _) (uD _) (Tp _) UF) mH h5 aG (fun o=>(Up.tail Up.head)) (fun kj s h6 S=>wpAny_execs_nil<|aT S (fun S=>?_))
 exact⟨rfl,ret x dx _ _ S h6 l1 l2⟩
theorem xeM(C:Cx gx aH A ae aE az L (dp+2) (un+6))(S:St ai ae L s l aa)(ret:∀x dx od s',St ai ae L s' l ((x,instObj 487 dx)::(dx,od)::aa)→bG od [(q "loose",.bool false),(q "shared",.bool false),(q "attrs",v2),(q "items",v1),(q "kind",v0)]→(∀p∈aa,p.1<dx)→dx<x→Q (.ref x) s'):
  wpAny (model af gx.gw) A (call (.ref 487) [v0,v1,v2]) Q E s:=by
 refine kw C S (kK _) (fun A x dx s C S l1 l2=>xcn C S (fun g L1 s C S=>bo ?_))
 intro Kz Ez
 refine ec ?_
 intro Kz
 refine bH ?_
 exists ap S (aB ah)<|ap S (aV ah) ?_
 refine bN C S (Vn _) mH bG.nil aG (fun o=>(Up.tail Up.head)) (fun Af s h1 S=>ec ?_)
 intro Kz
 refine bH ?_
 exists ap S (am ah)<|ap S (aV ah) ?_
 refine bN C S (Vm _) mH h1 aG (fun o=>(Up.tail Up.head)) (fun l4 s h2 S=>ec ?_)
 intro Kz
 refine bH ?_
 exists ap S ah<|ap S (aV ah) ?_
 refine bN C S (Vl _) mH h2 aG (fun o=>(Up.tail Up.head)) (fun Ag s h3 S=>ec ?_)
 intro Kz
 refine bH ?_
 exists wpAny_Constant_bool<|ap S (aV ah) ?_
 refine bN C S (Vp _) mH h3 aG (fun o=>(Up.tail Up.head)) (fun tW s h4 S=>ec ?_)
 intro Kz
 refine bH ?_
 exists wpAny_Constant_bool<|ap S (aV ah) ?_
 refine bN C S (Vo _) mH h4 aG (fun o=>(Up.tail Up.head)) (fun jH s h5 S=>wpAny_execs_nil<|aT S (fun S=>?_))
 exact⟨rfl,ret x dx _ _ S h5 l1 l2⟩
theorem oK(C:Cx gx aH A ae aE az L (dp+2) (un+6))(S:St ai ae L s l aa)(ret:∀x dx od s',St ai ae L s' l ((x,instObj 487 dx)::(dx,od)::aa)→bG od [(q "loose",.bool false),(q "shared",.bool false),(q "attrs",.none),(q "items",v1),(q "kind",v0)]→(∀p∈aa,p.1<dx)→dx<x→Q (.ref x) s'):
  wpAny (model af gx.gw) A (call (.ref 487) [v0,v1]) Q E s:=by
 refine kw C S (kK _) (fun A x dx s C S l1 l2=>xco C S (fun g L1 s C S=>bo ?_))
 intro Kz Ez
 refine ec ?_
 intro Kz
 refine bH ?_
 exists ap S (aB ah)<|ap S (aV ah) ?_
 refine bN C S (Vn _) mH bG.nil aG (fun o=>(Up.tail Up.head)) (fun Af s h1 S=>ec ?_)
 intro Kz
 refine bH ?_
 exists ap S (am ah)<|ap S (aV ah) ?_
 refine bN C S (Vm _) mH h1 aG (fun o=>(Up.tail Up.head)) (fun l4 s h2 S=>ec ?_)
 intro Kz
 refine bH ?_
 exists ap S ah<|ap S (aV ah) ?_
 refine bN C S (Vl _) mH h2 aG (fun o=>(Up.tail Up.head)) (fun Ag s h3 S=>ec ?_)
 intro Kz
 refine bH ?_
 exists wpAny_Constant_bool<|ap S (aV ah) ?_
 refine bN C S (Vp _) mH h3 aG (fun o=>(Up.tail Up.head)) (fun tW s h4 S=>ec ?_)
 intro Kz
 refine bH ?_
 exists wpAny_Constant_bool<|ap S (aV ah) ?_
 refine bN C S (Vo _) mH h4 aG (fun o=>(Up.tail Up.head)) (fun jH s h5 S=>wpAny_execs_nil<|aT S (fun S=>?_))
 exact⟨rfl,ret x dx _ _ S h5 l1 l2⟩
theorem xeK(C:Cx gx aH A ae aE az L (dp+2) (un+6))(S:St ai ae L s l aa)(ret:∀d4 x dx bp od s',St ai ae L s' l ((d4,emptyDict)::(x,instObj 658 dx)::(dx,od)::aa)→bG od [(q "attrs",.none),(q "slots",.ref d4),(q "name",v0),(q "kind",.str (q "S4") bp)]→(∀p∈aa,p.1<dx)→dx<x→(d4==sysModules)=false→Q (.ref x) s'):
  wpAny (model af gx.gw) A (call (.ref 658) [v0]) Q E s:=by
 refine kw C S (Rc _) (fun A x dx s C S l1 l2=>xcs C S (fun g L1 s C S=>bo ?_))
 intro Kz Ez
 refine ec ?_
 intro Kz
 refine bH ?_
 exists bE S (fun bp s S=>ap S (am ah) ?_)
 refine bN C S (bU (pF _) (GF _) (Ts _) ub) mH bG.nil aG (fun o=>(Up.tail Up.head)) (fun l4 s h2 S=>ec ?_)
 intro Kz
 refine bH ?_
 exists ap S ah<|ap S (am ah) ?_
 refine bN C S (bU (pF _) (GF _) (Tt _) An) mH h2 aG (fun o=>(Up.tail Up.head)) (fun Ag s h3 S=>ec ?_)
 intro Kz
 refine bH<|i5 C S (fun d4 s S ld4 Js=>?_)
 exists ap S (am ah) ?_
 refine bN C S (bU (pF _) (GF _) (aA (aj (aj (qA _)))) OV) (mT mH) h3 aG (fun o=>(Up.tail (Up.tail Up.head))) (fun jH s h5 S=>ec ?_)
 intro Kz
 refine bH ?_
 exists wpAny_Constant_none<|ap S (am ah) ?_
 refine bN C S (bU (pF _) (GF _) (aA (aj (aj (aj (qA _))))) Am) (mT mH) h5 aG (fun o=>(Up.tail (Up.tail Up.head))) (fun kj s h6 S=>wpAny_execs_nil<|aT S (fun S=>?_))
 exact⟨rfl,ret d4 x dx bp _ _ S h6 l1 l2 Js⟩
theorem xeJ(C:Cx gx aH A ae aE az L (dp+2) (un+6))(S:St ai ae L s l aa)(ret:∀d1 x dx od s',St ai ae L s' l ((d1,emptyDict)::(x,instObj 843 dx)::(dx,od)::aa)→bG od [(q "generics",.ref d1)]→(∀p∈aa,p.1<dx)→dx<x→(d1==sysModules)=false→Q (.ref x) s'):
  wpAny (model af gx.gw) A (call (.ref 843) []) Q E s:=by
 refine kw C S (Rb _) (fun A x dx s C S l1 l2=>xcw C S (fun g L1 s C S=>bo ?_))
 intro Kz Ez
 refine ec ?_
 intro Kz
 refine bH<|i5 C S (fun d1 s S vV iH=>?_)
 exists ap S ah ?_
 refine bN C S (bU (aA (aj (aj (aj (uY _))))) (aj (aj (aj (aj (aj (uY _)))))) (aA (aj (aj (aj (aj (qA _)))))) xgJ) (mT mH) bG.nil aG (fun o=>(Up.tail (Up.tail Up.head))) (fun l4 s h2 S=>wpAny_execs_nil<|aT S (fun S=>?_))
 exact⟨rfl,ret d1 x dx _ _ S h2 l1 l2 iH⟩
theorem xeF(C:Cx gx aH A ae aE az L (dp+2) (un+6))(S:St ai ae L s l aa)(ret:∀d3 d1 x dx od s',St ai ae L s' l ((d3,emptyDict)::(d1,emptyDict)::(x,instObj 409 dx)::(dx,od)::aa)→bG od [(q "unions",.ref d3),(q "classes",.ref d1)]→(∀p∈aa,p.1<dx)→dx<x→(d1==sysModules)=false→(d3==sysModules)=false→Q (.ref x) s'):
  wpAny (model af gx.gw) A (call (.ref 409) []) Q E s:=by
 refine kw C S (Q7 _) (fun A x dx s C S l1 l2=>xb9 C S (fun g L1 s C S=>bo ?_))
 intro Kz Ez
 refine ec ?_
 intro Kz
 refine bH<|i5 C S (fun d1 s S vV iH=>?_)
 exists ap S ah ?_
 refine bN C S (bU (jd _) (Vw _) (Tb _) Gj) (mT mH) bG.nil aG (fun o=>(Up.tail (Up.tail Up.head))) (fun l4 s h2 S=>ec ?_)
 intro Kz
 refine bH<|i5 C S (fun d3 s S ld3 TC=>?_)
 exists ap S ah ?_
 refine bN C S (bU (jd _) (Vw _) (Tc _) UI) (bc mH) h2 aG (fun o=>(Up.tail (Up.tail (Up.tail Up.head)))) (fun tW s h4 S=>wpAny_execs_nil<|aT S (fun S=>?_))
 exact⟨rfl,ret d3 d1 x dx _ _ S h4 l1 l2 iH TC⟩
theorem xeL(C:Cx gx aH A ae aE az L (dp+4) (un+12))(S:St ai ae L s l aa)(ret:∀d9 iq pG d1 d2 x3 d4 x dx Oy jH od s',St ai ae L s' l ((d9,emptyDict)::(iq,instObj 843 pG)::(pG,Oy)::(d1,emptyDict)::(d2,emptyDict)::(x3,instObj 409 d4)::(d4,jH)::(x,instObj 878 dx)::(dx,od)::aa)→bG Oy [(q "generics",.ref d9)]→bG jH [(q "unions",.ref d1),(q "classes",.ref d2)]→bG od [(q "older",.none),(q "methods",.ref iq),(q "classes",.ref x3)]→(∀p∈aa,p.1<dx)→dx<x→(d2==sysModules)=false→(d1==sysModules)=false→(d9==sysModules)=false→Q (.ref x) s'):
  wpAny (model af gx.gw) A (call (.ref 878) []) Q E s:=by
 refine kw C S (Rd _) (fun A x dx s C S l1 l2=>xcx C S (fun g L1 s C S=>bo ?_))
 intro Kz Ez
 refine ec ?_
 intro Kz
 refine bH<|O7 C S (aA (aj (aj (aj (aj (pT _)))))) (Q7 _)<|xeF C S (fun d1 d2 x3 d4 jH s S h5 l6 l7 ji iH=>?_)
 exists ap S ah ?_
 refine bN C S (bU (A1 _) (Pr _) (Tv _) Gj) (ch mH) bG.nil aG (fun o=>(Up.tail (Up.tail (Up.tail (Up.tail (Up.tail Up.head)))))) (fun TV s h8 S=>ec ?_)
 intro Kz
 refine bH<|O7 C S (aA (aj (aj (aj (pU _))))) (Rb _)<|xeJ C S (fun d9 iq pG Oy s S lE l13 l14 Jt=>?_)
 exists ap S ah ?_
 refine bN C S (bU (A1 _) (Pr _) (aA (qB _)) xgQ) (dK mH) h8 aG (fun o=>(Up.tail (Up.tail (Up.tail (Up.tail (Up.tail (Up.tail (Up.tail (Up.tail Up.head))))))))) (fun Oz s pZ S=>ec ?_)
 intro Kz
 refine bH ?_
 exists wpAny_Constant_none<|ap S ah ?_
 refine bN C S (bU (A1 _) (Pr _) (aA (aj (qB _))) xgT) (dK mH) pZ aG (fun o=>(Up.tail (Up.tail (Up.tail (Up.tail (Up.tail (Up.tail (Up.tail (Up.tail Up.head))))))))) (fun xeO s HO S=>wpAny_execs_nil<|aT S (fun S=>?_))
 exact⟨rfl,ret d9 iq pG d1 d2 x3 d4 x dx _ _ _ _ S lE h5 HO l1 l2 ji iH Jt⟩
theorem xeE{v0:Str}{VT:Tok}{v3:Str}{VU:Tok}(C:Cx gx aH A ae aE az L (dp+2) (un+6))(S:St ai ae L s l aa)(ret:∀x dx bp od s',St ai ae L s' l ((x,instObj 573 dx)::(dx,od)::aa)→bG od [(q "attrs",.none),(q "group",.str (v3) VU),(q "fn",v2),(q "special",.bool false),(q "name",.str (v0) VT),(q "kind",.str (q "builtin") bp)]→(∀p∈aa,p.1<dx)→dx<x→Q (.ref x) s'):
  wpAny (model af gx.gw) A (call (.ref 573) [.str v0 VT,.bool false,v2,.str v3 VU]) Q E s:=by
 refine kw C S (Q6 _) (fun A x dx s C S l1 l2=>xcq C S (fun g L1 s C S=>bo ?_))
 intro Kz Ez
 refine ec ?_
 intro Kz
 refine bH<|IfExp_<|isTrue_plain ?_
 exists ap S (aB ah)<|ei<|bE S (fun bp s S=>ap S (bR ah) ?_)
 refine bN C S (bU (pE _) (uC _) (aj (aj (aj (aj (aj (qJ _)))))) ub) mH bG.nil aG (fun o=>(Up.tail Up.head)) (fun l4 s h2 S=>ec ?_)
 intro Kz
 refine bH ?_
 exists ap S (aV ah)<|ap S (bR ah) ?_
 refine bN C S (bU (pE _) (uC _) (aA (qK _)) An) mH h2 aG (fun o=>(Up.tail Up.head)) (fun Ag s h3 S=>ec ?_)
 intro Kz
 refine bH ?_
 exists ap S (aB ah)<|ap S (bR ah) ?_
 refine bN C S (bU (pE _) (uC _) (aA (aj (qK _))) xgZ) mH h3 aG (fun o=>(Up.tail Up.head)) (fun tW s h4 S=>ec ?_)
 intro Kz
 refine bH ?_
 exists ap S (am ah)<|ap S (bR ah) ?_
 refine bN C S (bU (pE _) (uC _) (aA (aj (aj (qK _)))) xgG) mH h4 aG (fun o=>(Up.tail Up.head)) (fun jH s h5 S=>ec ?_)
 intro Kz
 refine bH ?_
 exists ap S ah<|ap S (bR ah) ?_
 refine bN C S (bU (pE _) (uC _) (aA (aj (aj (aj (qK _))))) xgK) mH h5 aG (fun o=>(Up.tail Up.head)) (fun kj s h6 S=>ec ?_)
 intro Kz
 refine bH ?_
 exists wpAny_Constant_none<|ap S (bR ah) ?_
 refine bN C S (bU (pE _) (uC _) (aA (aj (aj (aj (aj (qK _)))))) Am) mH h6 aG (fun o=>(Up.tail Up.head)) (fun OA s h7 S=>wpAny_execs_nil<|aT S (fun S=>?_))
 exact⟨rfl,ret x dx bp _ _ S h7 l1 l2⟩
theorem xeG(C:Cx gx aH A ae aE az L (dp+2) (un+6))(S:St ai ae L s l aa)(ret:∀d9 d6 x dx bp od s',St ai ae L s' l ((d9,emptyDict)::(d6,emptyDict)::(x,instObj 595 dx)::(dx,od)::aa)→bG od [(q "locks",.ref d9),(q "locked",.bool false),(q "frame",.ref d6),(q "attrs",.none),(q "parent",v1),(q "number",v0),(q "kind",.str (q "environment") bp)]→(∀p∈aa,p.1<dx)→dx<x→(d6==sysModules)=false→(d9==sysModules)=false→Q (.ref x) s'):
  wpAny (model af gx.gw) A (call (.ref 595) [v0,v1]) Q E s:=by
 refine kw C S (Q8 _) (fun A x dx s C S l1 l2=>xcr C S (fun g L1 s C S=>bo ?_))
 intro Kz Ez
 refine ec ?_
 intro Kz
 refine bH ?_
 exists bE S (fun bp s S=>ap S (aV ah) ?_)
 refine bN C S (bU (nG _) (oY _) (aj (aj (aj (aj (aj (qK _)))))) ub) mH bG.nil aG (fun o=>(Up.tail Up.head)) (fun l4 s h2 S=>ec ?_)
 intro Kz
 refine bH ?_
 exists ap S (aB ah)<|ap S (aV ah) ?_
 refine bN C S (bU (nG _) (oY _) (aA (qL _)) xgS) mH h2 aG (fun o=>(Up.tail Up.head)) (fun Ag s h3 S=>ec ?_)
 intro Kz
 refine bH ?_
 exists ap S (am ah)<|ap S (aV ah) ?_
 refine bN C S (bU (nG _) (oY _) (aA (aj (qL _))) xgV) mH h3 aG (fun o=>(Up.tail Up.head)) (fun tW s h4 S=>ec ?_)
 intro Kz
 refine bH ?_
 exists ap S ah<|ap S (aV ah) ?_
 refine bN C S (bU (nG _) (oY _) (aA (aj (aj (qL _)))) Am) mH h4 aG (fun o=>(Up.tail Up.head)) (fun jH s h5 S=>ec ?_)
 intro Kz
 refine bH<|i5 C S (fun d6 s S ld6 nd6=>?_)
 exists ap S (aV ah) ?_
 refine bN C S (bU (nG _) (oY _) (aA (aj (aj (aj (qL _))))) xgH) (mT mH) h5 aG (fun o=>(Up.tail (Up.tail Up.head))) (fun OA s h7 S=>ec ?_)
 intro Kz
 refine bH ?_
 exists wpAny_Constant_bool<|ap S (aV ah) ?_
 refine bN C S (bU (nG _) (oY _) (aA (aj (aj (aj (aj (qL _)))))) xgN) (mT mH) h7 aG (fun o=>(Up.tail (Up.tail Up.head))) (fun TV s h8 S=>ec ?_)
 intro Kz
 refine bH<|i5 C S (fun d9 s S ld9 Jt=>?_)
 exists ap S (aV ah) ?_
 refine bN C S (bU (nG _) (oY _) (aj (aj (aj (aj (aj (qL _)))))) xgO) (bc mH) h8 aG (fun o=>(Up.tail (Up.tail (Up.tail Up.head)))) (fun TU s fX S=>wpAny_execs_nil<|aT S (fun S=>?_))
 exact⟨rfl,ret d9 d6 x dx bp _ _ S fX l1 l2 nd6 Jt⟩
end
section
def lx(pi:Bool)(s4:Value)(gl:Addr)(lim:Value)(al:List (Str×Value)):Prop:=∃(a1 a2 a3 a4 a5 a6:Addr) (t1 t2 t3 t4:Tok) (kn:Int),al=[(q "s4",s4),(q "deparser",.none),(q "warner",.none),(q "signaller",.none),(q "dispatcher",.none),(q "current",.none),(q "visible",.bool pi),(q "targets",.int 0 t1),(q "restarts",.ref a1),(q "handlers",.ref a2),(q "warnings",.ref a3),(q "out",.ref a4),(q "frames",.ref a5),(q "globals",.ref gl),(q "base",.ref a6),(q "next_number",.int kn t2),(q "steps",.int 0 t3),(q "most_frames",.int 40 t4),(q "limit",lim)]
theorem Jf:∀{pre post:List (Str×Value)},pre.lookup nm=none→(pre++(nm,v)::post).lookup nm=some v
 |[],post,_=>by simp
 |(a,b)::pre,post,h=>by
  rw[List.lookup_cons] at h
  rw[List.cons_append,List.lookup_cons]
  cases e:nm==a<;>rw[e] at h
  ·exact Jf h
  ·cases h
theorem VA{x dx:Addr}{od:Obj}{pre post:List (Str×Value)}{k:Int}{tk:Tok}{g:Obj→List (Addr×Obj)}(C:Cx gx aH A ae aE az L (dp+3) (un+9))(S:St ai ae L s l aa)(m1:(x,instObj 1442 dx)∈aa)(hA:bG od (pre++(q "next_number",.int k tk)::post))(hp:pre.lookup (q "next_number")=none)(hz:(pre++(q "next_number",.int k tk)::post).length<1000)(u:∀o',Up dx od o' aa (g o'))(ret:∀e aw dM AB s',St ai ae L s' l (aw++g dM)→bG dM (pre++(q "next_number",.int (k+1) AB)::post)→R (.ok (.ret (.ref e))) s'):
  codeAny (model af gx.gw) A (.call (.ref 1258) ⟨[.ref x,v],[]⟩) R s:=by
 refine xbN C S (fun g1 L1 s C S=>bo ?_)
 intro Kz Ez
 refine ec ?_
 intro Kz
 refine aX<|iJ C S (aA (aj (pU _))) (Q8 _)<|spliced_more<|a9 C S (am ah) (RT _) ⟨_,_,m1,(u od).mem,hA⟩ (Jf hp) Sd (fun s S=>?_)
 exists aU S ah ?_
 refine iE C S<|xeG C S (fun d1 d2 x3 d4 ej kj s S h6 l7 l8 ji iH=>aW S (fun s S=>ec ?_))
 intro Kz
 refine wpAny_AugAssign_AttributeAny ?_
 exists ap S (aB ah) ?_
 refine gU C S (RT _) ⟨_,_,(ch m1),(ch (u od).mem),hA⟩ (Jf hp) Sd (fun s S=>?_)
 exists bf S (fun gH s S=>?_)
 refine Pc S (fun gH s S=>Gy C S (Vj _) (ch m1) hA hp hz (fun o=>(.tail (.tail (.tail (.tail (u o)))))) (fun od9 s h9 S=>ec ?_))
 intro Kz
 refine wpAny_Return_some ?_
 exists ap S ah ?_
 refine aT S (fun S=>?_)
 exact ret _ [(_,_),(_,_),(_,_),(_,_)] od9 gH s S h9
theorem xeH(C:Cx gx aH A ae aE az L (dp+5) (un+15))(S:St ai ae L s l aa)(ret:∀x dx od al gl s',St ai ae L s' l ((x,instObj 1442 dx)::(dx,od)::aa)→bG od al→lx true .none gl v0 al→(∀p∈aa,p.1<dx)→dx<x→Q (.ref x) s'):
  wpAny (model af gx.gw) A (call (.ref 1442) [v0]) Q E s:=by
 refine kw C S (Q9 _) (fun A x dx s C S l1 l2=>xbM C S (fun g L1 s C S=>bo ?_))
 intro Kz Ez
 refine ec ?_
 intro Kz
 refine bH ?_
 exists ap S (am ah)<|ap S (aB ah) ?_
 refine bN C S (bU (eM _) (f7 _) (aA (aj (aj (qB _)))) xgM) mH bG.nil aG (fun o=>(Up.tail Up.head)) (fun Af s h1 S=>ec ?_)
 intro Kz
 refine bH ?_
 exists ap S ah<|ap S (aB ah) ?_
 refine bN C S (bU (eM _) (f7 _) (aA (aj (aj (aj (qB _))))) xgR) mH h1 aG (fun o=>(Up.tail Up.head)) (fun l4 s h2 S=>ec ?_)
 intro Kz
 refine bH ?_
 exists bf S (fun cu s S=>ap S (aB ah) ?_)
 refine bN C S (bU (eM _) (f7 _) (aA (aj (aj (aj (aj (qB _)))))) xg0) mH h2 aG (fun o=>(Up.tail Up.head)) (fun tW s h4 S=>ec ?_)
 intro Kz
 refine bH ?_
 exists bf S (fun ej s S=>ap S (aB ah) ?_)
 refine bN C S (Vj _) mH h4 aG (fun o=>(Up.tail Up.head)) (fun kj s h6 S=>ec ?_)
 intro Kz
 refine bH<|methodCall_KW ?_
 exists ap S (aB ah) ?_
 refine fw C S (S8 _) ⟨_,_,mH,(mT mH),h6⟩ (bj (bj (bj (bj (dP)))))<|spliced_more ?_
 exists wpAny_Constant_none ?_
 refine dy C S<|VA (pre:=[]) C S mH h6 (dP) aG (fun o=>(.tail .head)) (fun e8 xjG OA gH s S h7=>?_)
 replace S:=St.sub (ag:=(_,_)::(_,_)::aa) S (List.sublist_append_right _ _)
 exists ap S (aB ah) ?_
 refine bN C S (bU (eM _) (f7 _) (Td _) Uy) mH h7 aG (fun o=>(Up.tail Up.head)) (fun TU s fX S=>ec ?_)
 intro Kz
 refine bH<|methodCall_KW ?_
 exists ap S (aB ah) ?_
 refine fw C S (S8 _) ⟨_,_,mH,(mT mH),fX⟩ (bj (bj (bj (bj (bj (dP))))))<|spliced_more<|a9 C S (aB ah) (fB (eM _) (ue _) (Td _) Uy) ⟨_,_,mH,(mT mH),fX⟩ ah bA (fun s S=>dy C S<|VA (pre:=[(q "base",.ref e8)]) C S mH fX (bj (dP)) aG (fun o=>(.tail .head)) (fun e12 xjF xkb AC s S jU=>?_))
 replace S:=St.sub (ag:=(_,_)::(_,_)::aa) S (List.sublist_append_right _ _)
 exists ap S (aB ah) ?_
 refine bN C S (bU (eM _) (f7 _) (Te _) UB) mH jU aG (fun o=>(Up.tail Up.head)) (fun xeN s nR S=>ec ?_)
 intro Kz
 refine bH ?_
 exists List_ ?_
 refine cF S aG (fun GN s S xei=>?_)
 exists ap S (aB ah) ?_
 refine bN C S (bU (eM _) (f7 _) (aA (aj (aj (qC _)))) xgI) (mT mH) nR aG (fun o=>(Up.tail (Up.tail Up.head))) (fun xeO s HO S=>ec ?_)
 intro Kz
 refine bH ?_
 exists List_ ?_
 refine cF S aG (fun PQ s S xjZ=>?_)
 exists ap S (aB ah) ?_
 refine bN C S (bU (eM _) (f7 _) (aA (aj (aj (aj (qC _))))) xgU) (bc mH) HO aG (fun o=>(Up.tail (Up.tail (Up.tail Up.head)))) (fun xke s h18 S=>ec ?_)
 intro Kz
 refine bH ?_
 exists List_ ?_
 refine cF S aG (fun x19 s S xj0=>?_)
 exists ap S (aB ah) ?_
 refine bN C S (bU (eM _) (f7 _) (aA (aj (aj (aj (aj (qC _)))))) xg4) (b5 mH) h18 aG (fun o=>(Up.tail (Up.tail (Up.tail (Up.tail Up.head))))) (fun xkg s h20 S=>ec ?_)
 intro Kz
 refine bH ?_
 exists List_ ?_
 refine cF S aG (fun x21 s S xej=>?_)
 exists ap S (aB ah) ?_
 refine bN C S (bU (eM _) (f7 _) (aj (aj (aj (aj (aj (qC _)))))) xgL) (ch mH) h20 aG (fun o=>(Up.tail (Up.tail (Up.tail (Up.tail (Up.tail Up.head)))))) (fun xkh s h22 S=>ec ?_)
 intro Kz
 refine bH ?_
 exists List_ ?_
 refine cF S aG (fun GO s S xek=>?_)
 exists ap S (aB ah) ?_
 refine bN C S (bU (eM _) (f7 _) (aA (qD _)) xgW) (eg mH) h22 aG (fun o=>(Up.tail (Up.tail (Up.tail (Up.tail (Up.tail (Up.tail Up.head))))))) (fun xki s h24 S=>ec ?_)
 intro Kz
 refine bH ?_
 exists bf S (fun xkJ s S=>ap S (aB ah) ?_)
 refine bN C S (bU (eM _) (f7 _) (aA (aj (qD _))) xg1) (eg mH) h24 aG (fun o=>(Up.tail (Up.tail (Up.tail (Up.tail (Up.tail (Up.tail Up.head))))))) (fun xkk s h26 S=>ec ?_)
 intro Kz
 refine bH ?_
 exists wpAny_Constant_bool<|ap S (aB ah) ?_
 refine bN C S (Pn _) (eg mH) h26 aG (fun o=>(Up.tail (Up.tail (Up.tail (Up.tail (Up.tail (Up.tail Up.head))))))) (fun xkl s h27 S=>ec ?_)
 intro Kz
 refine bH ?_
 exists wpAny_Constant_none<|ap S (aB ah) ?_
 refine bN C S (bU (eM _) (f7 _) (aA (aj (aj (aj (qD _))))) xgD) (eg mH) h27 aG (fun o=>(Up.tail (Up.tail (Up.tail (Up.tail (Up.tail (Up.tail Up.head))))))) (fun xkm s h28 S=>ec ?_)
 intro Kz
 refine bH ?_
 exists wpAny_Constant_none<|ap S (aB ah) ?_
 refine bN C S (bU (eM _) (f7 _) (aA (aj (aj (aj (aj (qD _)))))) xgF) (eg mH) h28 aG (fun o=>(Up.tail (Up.tail (Up.tail (Up.tail (Up.tail (Up.tail Up.head))))))) (fun xkn s h29 S=>ec ?_)
 intro Kz
 refine bH ?_
 exists wpAny_Constant_none<|ap S (aB ah) ?_
 refine bN C S (bU (eM _) (f7 _) (aj (aj (aj (aj (aj (qD _)))))) xgY) (eg mH) h29 aG (fun o=>(Up.tail (Up.tail (Up.tail (Up.tail (Up.tail (Up.tail Up.head))))))) (fun xko s h30 S=>ec ?_)
 intro Kz
 refine bH ?_
 exists wpAny_Constant_none<|ap S (aB ah) ?_
 refine bN C S (bU (eM _) (f7 _) (aA (we _)) xg3) (eg mH) h30 aG (fun o=>(Up.tail (Up.tail (Up.tail (Up.tail (Up.tail (Up.tail Up.head))))))) (fun xkp s h31 S=>ec ?_)
 intro Kz
 refine bH ?_
 exists wpAny_Constant_none<|ap S (aB ah) ?_
 refine bN C S (bU (eM _) (f7 _) (aA (aj (we _))) xgE) (eg mH) h31 aG (fun o=>(Up.tail (Up.tail (Up.tail (Up.tail (Up.tail (Up.tail Up.head))))))) (fun xkq s h32 S=>ec ?_)
 intro Kz
 refine bH ?_
 exists wpAny_Constant_none<|ap S (aB ah) ?_
 refine bN C S (Vk _) (eg mH) h32 aG (fun o=>(Up.tail (Up.tail (Up.tail (Up.tail (Up.tail (Up.tail Up.head))))))) (fun xeP s HP S=>wpAny_execs_nil<|aT S (fun S=>?_))
 have S:=St.sub (ag:=(x,instObj 1442 dx)::(dx,_)::aa) S (.cons _ (.cons _ (.cons _ (.cons _ (.cons _ (.cons_cons _ (.cons_cons _ (List.Sublist.refl _))))))))
 exact bC rfl (ret x dx _ _ _ _ S HP ⟨_,_,_,_,_,_,_,_,_,_,_,rfl⟩ l1 l2)
end
theorem oB{b:Bool}{P P':Prop}(h:b=true)(k:P):if b=true then P else P':=by rw[if_pos h];exact k
theorem b7{b:Bool}{P P':Prop}(h:b=false)(k:P'):if b=true then P else P':=by rw[if_neg (by rw[h];decide)];exact k
theorem tbT{b:Bool}{P P':Shared→Prop}(h:b=true)(k:P s):wpAny M A (truthy (.bool b)) (fun c s'=>if c=true then P s' else P' s') E s:=wpAny_truthy_bool (oB h k)
theorem gY{b:Bool}{P P':Shared→Prop}(h:b=false)(k:P' s):wpAny M A (truthy (.bool b)) (fun c s'=>if c=true then P s' else P' s') E s:=wpAny_truthy_bool (b7 h k)
theorem AV:(x==x)=true:=beq_self_eq_true x
theorem G8:(x !=x)=false:=by simp
theorem Yz(h:(x==y)=false):(x !=y)=true:=by unfold bne;rw[h];rfl
theorem PH{vs:List Value}{xs:List Str}{i:Nat}(h:StrsAre vs xs)(hx:xs[i]?=some x):∃t,vs[i]?=some (.str x t):=StrsAre.at h hx
noncomputable abbrev cN(kind:Str)(tk:Tok)(it av:Value):List (Str×Value):=[(q "loose",.bool false),(q "shared",.bool false),(q "attrs",av),(q "items",it),(q "kind",.str kind tk)]
theorem Dc.mem{af w}{β:Type}{d:Addr}{P:Str→β→Value→Prop}{cs:List (Str×β)}(D:Dc af w aa d P cs)(h:∀p∈aa,p∈ag):Dc af w ag d P cs:=D.mono (fun zz zz zz h=>h) fun zz m=>h _ m
theorem Dc.up{af w}{β:Type}{d:Addr}{P:Str→β→Value→Prop}{cs:List (Str×β)}{p:Addr×Obj}(D:Dc af w aa d P cs):Dc af w (p::aa) d P cs:=D.mem fun zz h=> .tail _ h
inductive cK(af:Program)(w:World)(aa:List (Addr×Obj))(x:Str):Value→Prop
 |none:cK af w aa x .none
 |dict {β:Type} {P:Str→β→Value→Prop} {cs:List (Str×β)} {d:Addr} (D:Dc af w aa d P cs) (fG:aM cs x=none):cK af w aa x (.ref d)
theorem cK.mem{af w aa ag x v}(h:cK af w aa x v)(k:∀p∈aa,p∈ag):cK af w ag x v:=by
 cases h with
 |none=>exact .none
 |dict D fG=>exact .dict (D.mem k) fG
theorem cK.up{af w aa x v}{p:Addr×Obj}(h:cK af w aa x v):cK af w (p::aa) x v:=h.mem fun zz h=> .tail _ h
section
theorem xhA{β:Type}{P:Str→β→Value→Prop}{cs:List (Str×β)}{d:Addr}{tk:Tok}(S:St ai ae L s l aa)(D:Dc af w aa d P cs)(hn:aM cs x=none)(h:∀s',St ai ae L s' l aa→Q .none s'):wpAny (model af w) A (call (.builtin "dict.get") [.ref d,.str x tk]) Q E s:=
 Pb S D fun v s' hv S'=>by rw[hn] at hv;subst hv;exact h s' S'
theorem xhB{β:Type}{P:Str→β→Value→Prop}{cs:List (Str×β)}{d:Addr}{tk:Tok}{b:β}(S:St ai ae L s l aa)(D:Dc af w aa d P cs)(hb:aM cs x=some b)(h:∀v s',P x b v→St ai ae L s' l aa→Q v s'):wpAny (model af w) A (call (.builtin "dict.get") [.ref d,.str x tk]) Q E s:=
 Pb S D fun v s' hv S'=>by rw[hb] at hv;exact h v s' hv S'
end
section
theorem Ps{v it:Addr}{av:Value}{kind:Str}{b8:Tok}{tk:Tok}(C:Cx gx aH A ae aE az L (dp+1) (un+3))(S:St ai ae L s l aa)(I:Inst aa v 487 (cN (kind) b8 (.ref it) av))(hn:cK af gx.gw aa x av)(ret:∀s',St ai ae L s' l aa→R (.ok (.ret .none)) s'):codeAny (model af gx.gw) A (.call (.ref 28) ⟨[.ref v,.str x tk],[]⟩) R s:=by
 refine Rt C S (fun g L1 s C S=>bo ?_)
 intro Kz Ez
 cases hn with
 |none=>
  refine ec ?_
  intro Kz
  refine br<|a9 C S (am ah) (vf _) I (aB ah) Se (fun s S=>wpAny_Constant_none<|is_none_none ?_)
  exists gZ ?_
  refine ec ?_
  intro Kz
  refine wpAny_Return_some ?_
  exists wpAny_Constant_none ?_
  refine aT S (fun S=>?_)
  exact ret _ S
 |dict D fG=>
  refine ec ?_
  intro Kz
  refine br<|a9 C S (am ah) (vf _) I (aB ah) bA (fun s S=>wpAny_Constant_none<|is_ref_none ?_)
  exists ei ?_
  refine wpAny_execs_nil<|ec ?_
  intro Kz
  refine wpAny_Return_some<|methodCall_KW<|a9 C S (am ah) (vf _) I (aB ah) bA (fun s S=>Av S D ?_)
  exists aU S ah ?_
  refine xhA S D fG (fun s S=>aT S (fun S=>?_))
  exact ret _ S
theorem xiL{v it:Addr}{kind:Str}{b8:Tok}{tk:Tok}{β:Type}{d:Addr}{P:Str→β→Value→Prop}{cs:List (Str×β)}{b:β}(C:Cx gx aH A ae aE az L (dp+1) (un+3))(S:St ai ae L s l aa)(I:Inst aa v 487 (cN (kind) b8 (.ref it) (.ref d)))(D:Dc af gx.gw aa d P cs)(hb:aM cs x=some b)(ret:∀y s',P x b y→St ai ae L s' l aa→R (.ok (.ret y)) s'):codeAny (model af gx.gw) A (.call (.ref 28) ⟨[.ref v,.str x tk],[]⟩) R s:=by
 refine Rt C S (fun g L1 s C S=>bo ?_)
 intro Kz Ez
 refine ec ?_
 intro Kz
 refine br<|a9 C S (am ah) (vf _) I (aB ah) bA (fun s S=>wpAny_Constant_none<|is_ref_none ?_)
 exists ei ?_
 refine wpAny_execs_nil<|ec ?_
 intro Kz
 refine wpAny_Return_some<|methodCall_KW<|a9 C S (am ah) (vf _) I (aB ah) bA (fun s S=>Av S D ?_)
 exists aU S ah ?_
 refine xhB S D hb (fun y s hp S=>aT S (fun S=>?_))
 exact ret _ _ hp S
theorem Pw{v it:Addr}{av:Value}{kind:Str}{b8:Tok}(C:Cx gx aH A ae aE az L (dp+2) (un+6))(S:St ai ae L s l aa)(I:Inst aa v 487 (cN (kind) b8 (.ref it) av))(hn:cK af gx.gw aa (q "dim") av)(ret:∀s',St ai ae L s' l aa→R (.ok (.ret .none)) s'):
  codeAny (model af gx.gw) A (.call (.ref 40) ⟨[.ref v],[]⟩) R s:=by
 refine xci C S (fun g L1 s C S=>bo ?_)
 intro Kz Ez
 refine ec ?_
 intro Kz
 refine aX<|aY C S (Bf _) ?_
 exists bQ S ah<|cz S (fun bp s S=>?_)
 refine bh C S<|Ps C S I hn (fun s S=>aW S (fun s S=>ec ?_))
 intro Kz
 refine br ?_
 exists ap S ah ?_
 refine wpAny_Constant_none<|is_none_none ?_
 exists gZ ?_
 refine ec ?_
 intro Kz
 refine wpAny_Return_some ?_
 exists wpAny_Constant_none ?_
 refine aT S (fun S=>?_)
 exact ret _ S
theorem Px{v it:Addr}{av:Value}{kind:Str}{b8:Tok}(C:Cx gx aH A ae aE az L (dp+2) (un+6))(S:St ai ae L s l aa)(I:Inst aa v 487 (cN (kind) b8 (.ref it) av))(hn:cK af gx.gw aa (q "class") av)(ret:∀x s',St ai ae L s' l ((x,listOf #[] 0)::aa)→(∀p∈aa,p.1<x)→R (.ok (.ret (.ref x))) s'):
  codeAny (model af gx.gw) A (.call (.ref 52) ⟨[.ref v],[]⟩) R s:=by
 refine xcp C S (fun g L1 s C S=>bo ?_)
 intro Kz Ez
 refine ec ?_
 intro Kz
 refine aX<|aY C S (Bf _) ?_
 exists bQ S ah<|cz S (fun bp s S=>?_)
 refine bh C S<|Ps C S I hn (fun s S=>aW S (fun s S=>ec ?_))
 intro Kz
 refine br ?_
 exists ap S ah ?_
 refine wpAny_Constant_none<|is_none_none ?_
 exists gZ ?_
 refine ec ?_
 intro Kz
 refine wpAny_Return_some ?_
 exists List_ ?_
 refine cF S aG (fun x2 s S dE=>aT S (fun S=>?_))
 exact ret x2 s S dE
theorem uE{v it:Addr}{av:Value}{kind:Str}{b8:Tok}(C:Cx gx aH A ae aE az L (dp+3) (un+9))(S:St ai ae L s l aa)(I:Inst aa v 487 (cN (kind) b8 (.ref it) av))(hn:cK af gx.gw aa (q "dim") av)(ret:∀x s',St ai ae L s' l ((x,listOf #[] 0)::aa)→(∀p∈aa,p.1<x)→R (.ok (.ret (.ref x))) s'):
  codeAny (model af gx.gw) A (.call (.ref 66) ⟨[.ref v],[]⟩) R s:=by
 refine xct C S (fun g L1 s C S=>bo ?_)
 intro Kz Ez
 refine ec ?_
 intro Kz
 refine aX<|aY C S (HM _) ?_
 exists aU S ah ?_
 refine bh C S<|Pw C S I hn (fun s S=>aW S (fun s S=>ec ?_))
 intro Kz
 refine br ?_
 exists ap S ah ?_
 refine wpAny_Constant_none<|is_none_none ?_
 exists gZ ?_
 refine ec ?_
 intro Kz
 refine wpAny_Return_some ?_
 exists List_ ?_
 refine cF S aG (fun x1 s S eA=>aT S (fun S=>?_))
 exact ret x1 s S eA
theorem xiO{v it:Addr}{av:Value}{b8:Tok}(C:Cx gx aH A ae aE az L (dp+3) (un+9))(S:St ai ae L s l aa)(I:Inst aa v 487 (cN (q "character") b8 (.ref it) av))(hn:cK af gx.gw aa (q "dim") av)(hm:cK af gx.gw aa (q "names") av)(ret:∀s',St ai ae L s' l aa→R (.ok (.ret .none)) s'):
  codeAny (model af gx.gw) A (.call (.ref 33) ⟨[.ref v],[]⟩) R s:=by
 refine Ru C S (fun g L1 s C S=>bo ?_)
 intro Kz Ez
 refine ec ?_
 intro Kz
 refine br<|a9 C S ah (eC _) I (bR ah) ds (fun s S=>?_)
 exists bZ S (fun bp s S=>?_)
 refine b7 nk<|wpAny_execs_nil<|ec ?_
 intro Kz
 refine br<|a9 C S ah (eC _) I (bR ah) ds (fun s S=>?_)
 exists bZ S (fun bO s S=>?_)
 refine b7 nk<|wpAny_execs_nil<|ec ?_
 intro Kz
 refine aX<|aY C S (HM _) ?_
 exists aU S ah ?_
 refine bh C S<|Pw C S I hn (fun s S=>aW S (fun s S=>ec ?_))
 intro Kz
 refine wpAny_If ?_
 exists isTrue_and ?_
 refine wpAny_isTrue_Compare1 ?_
 exists ap S ah ?_
 refine wpAny_Constant_none<|isnot_none_none ?_
 exists ei<|cJ ?_
 refine wpAny_execs_nil<|ec ?_
 intro Kz
 refine aX<|aY C S (Bf _) ?_
 exists bQ S (am ah)<|cz S (fun cu s S=>?_)
 refine bh C S<|Ps C S I hm (fun s S=>aW S (fun s S=>ec ?_))
 intro Kz
 refine br ?_
 exists ap S ah ?_
 refine wpAny_Constant_none<|is_none_none ?_
 exists gZ ?_
 refine ec ?_
 intro Kz
 refine wpAny_Return_some ?_
 exists wpAny_Constant_none ?_
 refine aT S (fun S=>?_)
 exact ret _ S
end
section
theorem xiP{v it:Addr}{b8:Tok}{β:Type}{d:Addr}{P:Str→β→Value→Prop}{cs:List (Str×β)}{b:β}{n m:Addr}{k2:Str}{t2:Tok}{uV:Value}{ns:Array Value}{mk:Nat}(C:Cx gx aH A ae aE az L (dp+3) (un+9))(S:St ai ae L s l aa)(I:Inst aa v 487 (cN (q "character") b8 (.ref it) (.ref d)))(hn:cK af gx.gw aa (q "dim") (.ref d))(D:Dc af gx.gw aa d P cs)(hb:aM cs (q "names")=some b)(hP:∀y,P (q "names") b y→y= .ref n)(In:Inst aa n 487 (cN k2 t2 (.ref m) uV))(hm:(m,listOf ns mk)∈aa)(hz:ns.size≤sizeLine)(ret:∀x c s',St ai ae L s' l ((x,listOf ns c)::aa)→(∀p∈aa,p.1<x)→R (.ok (.ret (.ref x))) s'):
  codeAny (model af gx.gw) A (.call (.ref 33) ⟨[.ref v],[]⟩) R s:=by
 refine Ru C S (fun g L1 s C S=>bo ?_)
 intro Kz Ez
 refine ec ?_
 intro Kz
 refine br<|a9 C S ah (eC _) I (bR ah) ds (fun s S=>?_)
 exists bZ S (fun bp s S=>?_)
 refine b7 nk<|wpAny_execs_nil<|ec ?_
 intro Kz
 refine br<|a9 C S ah (eC _) I (bR ah) ds (fun s S=>?_)
 exists bZ S (fun bO s S=>?_)
 refine b7 nk<|wpAny_execs_nil<|ec ?_
 intro Kz
 refine aX<|aY C S (HM _) ?_
 exists aU S ah ?_
 refine bh C S<|Pw C S I hn (fun s S=>aW S (fun s S=>ec ?_))
 intro Kz
 refine wpAny_If ?_
 exists isTrue_and ?_
 refine wpAny_isTrue_Compare1 ?_
 exists ap S ah ?_
 refine wpAny_Constant_none<|isnot_none_none ?_
 exists ei<|cJ ?_
 refine wpAny_execs_nil<|ec ?_
 intro Kz
 refine aX<|aY C S (Bf _) ?_
 exists bQ S (am ah)<|cz S (fun cu s S=>?_)
 refine bh C S<|xiL C S I D hb (fun y s hp S=>?_)
 obtain rfl:=hP _ hp
 refine aW S (fun s S=>ec ?_)
 intro Kz
 refine br ?_
 exists ap S ah ?_
 refine wpAny_Constant_none<|is_ref_none ?_
 exists ei ?_
 refine wpAny_execs_nil<|ec ?_
 intro Kz
 refine wpAny_Return_some<|fS C S (nP _) nD<|spliced_more<|a9 C S ah (ju _) In (aV ah) bA (fun s S=>spliced_none<|oW S hm hz (fun x4 cx4 s S i2=>aT S (fun S=>?_)))
 exact ret x4 _ s S i2
end
theorem mA{α:Type}{p:α}{aw l:List α}(h:p∈l):p∈aw++l:=List.mem_append_right _ h
theorem Up.app{d:Addr}{o':Obj}{l l':List (Addr×Obj)}(u:Up d o o' l l'){aw:List (Addr×Obj)}:Up d o o' (aw++l) (aw++l'):=by
 induction aw with
 |nil=>exact u
 |cons a r ih=>exact .tail ih
theorem Inst.app{aw:List (Addr×Obj)}{x K:Addr}(I:Inst aa x K al):Inst (aw++aa) x K al:=I.mono fun zz h=>mA h
theorem Dc.app{af w}{β:Type}{aw:List (Addr×Obj)}{d:Addr}{P:Str→β→Value→Prop}{cs:List (Str×β)}(D:Dc af w aa d P cs):Dc af w (aw++aa) d P cs:=D.mem fun zz h=>mA h
theorem cK.app{af w aa aw x v}(h:cK af w aa x v):cK af w (aw++aa) x v:=h.mem fun zz h=>mA h
inductive db(aa:List (Addr×Obj)):List Value→List (Str×Str)→Prop
 |nil:db aa [] []
 |cons {t:Addr} {x y:Str} {a b:Tok} {c:Nat} {vs ps}:(t,bK #[.str x a,.str y b] c)∈aa→db aa vs ps→db aa (.ref t::vs) ((x,y)::ps)
theorem db.mono{vs ps}(h:db aa vs ps)(k:∀p∈aa,p∈ag):db ag vs ps:=by
 induction h with
 |nil=>exact .nil
 |cons a _ ih=>exact .cons (k _ a) ih
theorem db.up{aa vs ps}{p:Addr×Obj}(h:db aa vs ps):db (p::aa) vs ps:=h.mono fun zz h=> .tail _ h
theorem db.app{aa aw vs ps}(h:db aa vs ps):db (aw++aa) vs ps:=h.mono fun zz h=>mA h
theorem db.len{vs ps}(h:db aa vs ps):vs.length=ps.length:=by
 induction h with
 |nil=>rfl
 |cons a _ ih=>simp[ih]
theorem db.push{vs:Array Value}{ps}(h:db aa vs.toList ps){t:Addr}{a b:Tok}{c:Nat}(ht:(t,bK #[.str x a,.str y b] c)∈aa):db aa (vs.push (.ref t)).toList (ps++[(x,y)]):=by
 rw[Array.toList_push]
 generalize vs.toList=us at h
 induction h with
 |nil=>exact .cons ht .nil
 |cons a _ ih=>exact .cons a ih
theorem db.get{vs:List Value}{ps:List (Str×Str)}(H:db aa vs ps):∀{i:Nat} {v:Value},vs[i]?=some v→∃t x y a b c,v= .ref t∧ps[i]?=some (x,y)∧(t,bK #[.str x a,.str y b] c)∈aa:=by
 induction H with
 |nil=>intro i v h;exact absurd h (by simp)
 |cons hm r ih=>
  intro i v h
  cases i with
  |zero=>exact⟨_,_,_,_,_,_,(Option.some.inj h).symm,rfl,hm⟩
  |succ i=>exact ih h
theorem take_snoc{α:Type}{l:List α}{i:Nat}{a:α}(h:l[i]?=some a):l.take (i+1)=l.take i++[a]:=by rw[List.take_add_one,h];rfl
theorem je{α:Type}{l:List α}{i:Nat}(h:i<l.length):∃a,l[i]?=some a:=⟨_,List.getElem?_eq_getElem h⟩
section
theorem cL{n:Nat}{k:Int}{u:Tok}{x:Value}{value slice:Expr}(S:St ai ae L s l aa)(hm:(a,listOf ba n)∈aa)(h0:0≤k)(nW:k<2^63)(hx:ba[k.toNat]?=some x)(h:Q x s)(hs:autoParam (subscripted slice false (.ref a) (.int k u)=operate [.ref a,.int k u] (getItem (.ref a) (.int k u))) wr):
  wpAny (model af w) A (subscriptTail value slice (.ref a) (.int k u)) Q E s:=
 have hl:=S.lst hm
 PyProof.Rows.tail_any hl.typeIs slot_list_getitem.lookup (wpAny_getItem_list hl h0 nW hx h) hs
end
section
theorem xin(C:Cx gx aH A ae aE az L (dp+1) (un+3))(S:St ai ae L s l aa)(ret:∀r vs n aw s',St ai ae L s' l ((r,listOf vs n)::(aw++aa))→(∀p∈aa,p.1<r)→db aw vs.toList ([])→R (.ok (.ret (.ref r))) s'):
  codeAny (model af gx.gw) A (.call (.ref 1056) ⟨[.none],[]⟩) R s:=by
 refine Hp C S (fun g L1 s C S=>bo ?_)
 intro Kz Ez
 refine ec ?_
 intro Kz
 refine wpAny_If ?_
 exists isTrue_or ?_
 refine wpAny_isTrue_Compare1 ?_
 exists ap S ah ?_
 refine wpAny_Constant_none<|is_none_none ?_
 exists gZ<|er ?_
 refine ec ?_
 intro Kz
 refine wpAny_Return_some ?_
 exists List_ ?_
 refine cF S aG (fun x1 s S eA=>aT S (fun S=>?_))
 exact ret x1 #[] _ [] s S eA .nil
theorem Vy{v it:Addr}{av:Value}{b8:Tok}{iv:Array Value}{ik:Nat}{xs:List Str}(C:Cx gx aH A ae aE az L (dp+4) (un+12))(S:St ai ae L s l aa)(I:Inst aa v 487 (cN (q "character") b8 (.ref it) av))(hn:cK af gx.gw aa (q "dim") av)(hm:cK af gx.gw aa (q "names") av)(hi:(it,listOf iv ik)∈aa)(gy:iv.size≤sizeLine)(j2:StrsAre iv.toList xs)(ret:∀r vs n aw s',St ai ae L s' l ((r,listOf vs n)::(aw++aa))→(∀p∈aa,p.1<r)→db aw vs.toList (xs.map fun x=>(q "",x))→R (.ok (.ret (.ref r))) s'):
  codeAny (model af gx.gw) A (.call (.ref 1056) ⟨[.ref v],[]⟩) R s:=by
 refine Hp C S (fun g L1 s C S=>bo ?_)
 intro Kz Ez
 refine ec ?_
 intro Kz
 refine wpAny_If ?_
 exists isTrue_or ?_
 refine wpAny_isTrue_Compare1 ?_
 exists ap S ah ?_
 refine wpAny_Constant_none<|is_ref_none ?_
 exists ei<|isTrue_or ?_
 refine wpAny_isTrue_Compare1<|a9 C S ah (eC _) I (bR ah) ds (fun s S=>?_)
 exists bZ S (fun bp s S=>?_)
 refine b7 nk ?_
 exists isTrue_or_nil<|cJ ?_
 refine wpAny_execs_nil<|ec ?_
 intro Kz
 refine wpAny_If ?_
 exists isTrue_and ?_
 refine wpAny_isTrue_Compare1<|a9 C S ah (eC _) I (bR ah) ds (fun s S=>?_)
 exists bE S (fun bO s S=>km ?_)
 refine gY G8 ?_
 exists cJ ?_
 refine wpAny_execs_nil<|ec ?_
 intro Kz
 refine aX<|aY C S (R0 _) ?_
 exists aU S ah ?_
 refine bh C S<|xiO C S I hn hm (fun s S=>aW S (fun s S=>ec ?_))
 intro Kz
 refine aX ?_
 exists List_ ?_
 refine cF S aG (fun x3 s S fj=>aW S (fun s S=>ec ?_))
 intro Kz
 refine cD<|fS C S (jf _) ja<|spliced_more<|eU C S (eO _) eL<|spliced_more<|a9 C S (aB ah) (ju _) I.up (aV ah) bA (fun s S=>spliced_none<|eV S (mT hi) gy (fun tq s S=>spliced_none<|jm S (fun r4 ur4 vr4 s S lr4=>?_)))
 refine jl C.hh S mH (Int.natCast_nonneg _) (by rw[sizeLine_eq] at gy;exact Ul gy) (fun Ix oi s S hO W=>?_)
 replace S:=St.perm S (.cons _ (.swap _ _ _))
 refine Gp W (S.sub (.cons_cons _ (.cons_cons _ (.cons _ (List.Sublist.refl _))))) hO (fun i l' ag=>(l'.lookup (q "value")=some (.ref v)∧l'.lookup (q "pairs")=some (.ref x3)∧l'.lookup (q "names")=some .none)∧∃vs n aw,ag=((x3,listOf vs n)::(aw++(aa)):List (Addr×Obj))∧db aw vs.toList ((xs.map fun x=>(q "",x)).take i))
   ⟨⟨(aB ah),ah,(am ah)⟩,#[],_,[],rfl,.nil⟩ (fun zz zz zz zz=>trivial) (fun i vv s l' ag it e7 hv hJ S=>?_) (fun s l' ag hJ S=>?_)
 ·obtain⟨tv,rfl⟩:=hv
  refine ay hJ fun z1 z2=>aO z1 fun hV lF hN=>cQ z2 fun vs n aw z3=>ay z3 fun z4 bq=>?_
  clear hJ z1 z2 z3
  refine xS1 z4 S fun S=>?_
  refine eu S (fun s S=>?_)
  have jg:=bX (cG j2)
  rw[Int.toNat_natCast] at e7
  obtain⟨x,hx⟩:=je (l:=xs) (i:=i) (by exact Uk e7 jg)
  obtain⟨tx,IN⟩:=PH j2 hx
  have IW:(xs.map fun x=>(q "",x))[i]?=some (q "",x):=by rw[List.getElem?_map,hx];rfl
  have lQ:(xs.map fun x=>(q "",x)).length=xs.length:=List.length_map ..
  have dQ:=bq.len
  have eE:=List.length_take_le i (xs.map fun x=>(q "",x))
  rw[Array.length_toList] at dQ
  have dw:vs.size≤sizeLine:=by exact Uj gy e7 dQ eE
  refine ec ?_
  intro Kz
  refine aX<|Subscript_<|a9 C S (am hV) (ju _) I.app.up.up (aV ah) bA (fun s S=>?_)
  exists ap S ah ?_
  refine cL S (bc (mA hi)) (Int.natCast_nonneg _) (by rw[sizeLine_eq] at gy;exact Gf gy e7) (x:= .str x tx) (by simpa using IN) ?_
  refine aW S (fun s S=>ec ?_)
  intro Kz
  refine br<|a9 C S (aB hV) (eC _) I.app.up.up (bR ah) ds (fun s S=>?_)
  exists bZ S (fun ej s S=>?_)
  refine b7 nk<|wpAny_execs_nil<|ec ?_
  intro Kz
  refine aX<|IfExp_ ?_
  exists isTrue_or ?_
  refine wpAny_isTrue_Compare1 ?_
  exists ap S (aB hN) ?_
  refine wpAny_Constant_none<|is_none_none ?_
  exists gZ<|er<|bE S (fun ed s S=>?_)
  refine aW S (fun s S=>ec ?_)
  intro Kz
  refine wpAny_Expr<|methodCall_KW ?_
  exists ap S (aV lF) ?_
  refine ft S (mT mH) ?_
  exists Tuple_<|bQ S ah<|aU S (am ah) ?_
  refine ea S aG (fun x7 s S lU=>fb S (Up.tail (Up.tail Up.head)) dw (fun s S=>wpAny_execs_nil ?_))
  replace S:=St.perm S ((List.Perm.swap _ _ _).trans (.cons _ (.swap _ _ _)))
  refine aN (aR S (aR (aV hV) (aV lF) (aV hN)) (eK (c:=(_,_)::aw) (bC rfl ?_)))
  rw[take_snoc IW];exact bq.up.push mH
 refine ay hJ fun z1 z2=>aO z1 fun hV lF hN=>cQ z2 fun vs n aw z3=>ay z3 fun z4 bq=>?_
 clear hJ z1 z2 z3
 refine Wq z4 S fun S=>?_
 have jg:=bX (cG j2)
 rw[List.take_of_length_le (by rw[List.length_map];exact OL jg)] at bq
 refine ec ?_
 intro Kz
 refine wpAny_Return_some ?_
 exists ap S lF ?_
 refine aT S (fun S=>?_)
 exact ret x3 vs n aw s S (fun p hp=>fj p hp) bq
theorem xim{v it:Addr}{b8:Tok}{β:Type}{d:Addr}{P:Str→β→Value→Prop}{cs:List (Str×β)}{b:β}{n m:Addr}{k2:Str}{t2:Tok}{uV:Value}{ns:Array Value}{mk:Nat}{iv:Array Value}{ik:Nat}{xs ys:List Str}(C:Cx gx aH A ae aE az L (dp+4) (un+12))(S:St ai ae L s l aa)(I:Inst aa v 487 (cN (q "character") b8 (.ref it) (.ref d)))(hn:cK af gx.gw aa (q "dim") (.ref d))(D:Dc af gx.gw aa d P cs)(hb:aM cs (q "names")=some b)(hP:∀y,P (q "names") b y→y= .ref n)(In:Inst aa n 487 (cN k2 t2 (.ref m) uV))(hm:(m,listOf ns mk)∈aa)(hi:(it,listOf iv ik)∈aa)(gy:iv.size≤sizeLine)(j2:StrsAre iv.toList xs)(fZ:ns.size≤sizeLine)(kX:StrsAre ns.toList ys)(hle:xs.length=ys.length)(ret:∀r vs n aw s',St ai ae L s' l ((r,listOf vs n)::(aw++aa))→(∀p∈aa,p.1<r)→db aw vs.toList (ys.zip xs)→R (.ok (.ret (.ref r))) s'):
  codeAny (model af gx.gw) A (.call (.ref 1056) ⟨[.ref v],[]⟩) R s:=by
 refine Hp C S (fun g L1 s C S=>bo ?_)
 intro Kz Ez
 refine ec ?_
 intro Kz
 refine wpAny_If ?_
 exists isTrue_or ?_
 refine wpAny_isTrue_Compare1 ?_
 exists ap S ah ?_
 refine wpAny_Constant_none<|is_ref_none ?_
 exists ei<|isTrue_or ?_
 refine wpAny_isTrue_Compare1<|a9 C S ah (eC _) I (bR ah) ds (fun s S=>?_)
 exists bZ S (fun bp s S=>?_)
 refine b7 nk ?_
 exists isTrue_or_nil<|cJ ?_
 refine wpAny_execs_nil<|ec ?_
 intro Kz
 refine wpAny_If ?_
 exists isTrue_and ?_
 refine wpAny_isTrue_Compare1<|a9 C S ah (eC _) I (bR ah) ds (fun s S=>?_)
 exists bE S (fun bO s S=>km ?_)
 refine gY G8 ?_
 exists cJ ?_
 refine wpAny_execs_nil<|ec ?_
 intro Kz
 refine aX<|aY C S (R0 _) ?_
 exists aU S ah ?_
 refine bh C S<|xiP C S I hn D hb hP In hm fZ (fun N3 YQ s S lN3=>aW S (fun s S=>ec ?_))
 intro Kz
 refine aX ?_
 exists List_ ?_
 refine cF S aG (fun x4 s S i2=>aW S (fun s S=>ec ?_))
 intro Kz
 refine cD<|fS C S (jf _) ja<|spliced_more<|eU C S (eO _) eL<|spliced_more<|a9 C S (aB ah) (ju _) I.up.up (aV ah) bA (fun s S=>spliced_none<|eV S (bc hi) gy (fun tq s S=>spliced_none<|jm S (fun r5 ur5 vr5 s S lr5=>?_)))
 refine jl C.hh S mH (Int.natCast_nonneg _) (by rw[sizeLine_eq] at gy;exact Ul gy) (fun Ix oi s S hO W=>?_)
 replace S:=St.perm S (.cons _ (.swap _ _ _))
 refine Gp W (S.sub (.cons_cons _ (.cons_cons _ (.cons _ (List.Sublist.refl _))))) hO (fun i l' ag=>(l'.lookup (q "value")=some (.ref v)∧l'.lookup (q "pairs")=some (.ref x4)∧l'.lookup (q "names")=some (.ref N3))∧∃vs n aw,ag=((x4,listOf vs n)::(aw++((N3,listOf ns YQ)::aa)):List (Addr×Obj))∧db aw vs.toList ((ys.zip xs).take i))
   ⟨⟨(aB ah),ah,(am ah)⟩,#[],_,[],rfl,.nil⟩ (fun zz zz zz zz=>trivial) (fun i vv s l' ag it e7 hv hJ S=>?_) (fun s l' ag hJ S=>?_)
 ·obtain⟨tv,rfl⟩:=hv
  refine ay hJ fun z1 z2=>aO z1 fun hV lF hN=>cQ z2 fun vs n aw z3=>ay z3 fun z4 bq=>?_
  clear hJ z1 z2 z3
  refine xS1 z4 S fun S=>?_
  refine eu S (fun s S=>?_)
  have jg:=bX (cG j2)
  rw[Int.toNat_natCast] at e7
  obtain⟨x,hx⟩:=je (l:=xs) (i:=i) (by exact Uk e7 jg)
  obtain⟨tx,IN⟩:=PH j2 hx
  have df:=bX (cG kX)
  obtain⟨y,hy⟩:=je (l:=ys) (i:=i) (by exact xfV hle e7 jg)
  obtain⟨ty,SA⟩:=PH kX hy
  have IW:(ys.zip xs)[i]?=some (y,x):=by rw[List.getElem?_zip_eq_some];exact⟨hy,hx⟩
  have lQ:(ys.zip xs).length=xs.length:=by rw[List.length_zip];exact xfU hle
  have dQ:=bq.len
  have eE:=List.length_take_le i (ys.zip xs)
  rw[Array.length_toList] at dQ
  have dw:vs.size≤sizeLine:=by exact xfT fZ hle e7 jg df dQ eE
  refine ec ?_
  intro Kz
  refine aX<|Subscript_<|a9 C S (am hV) (ju _) I.up.app.up.up (aV ah) bA (fun s S=>?_)
  exists ap S ah ?_
  refine cL S (bc (mA (mT hi))) (Int.natCast_nonneg _) (by rw[sizeLine_eq] at gy;exact Gf gy e7) (x:= .str x tx) (by simpa using IN) ?_
  refine aW S (fun s S=>ec ?_)
  intro Kz
  refine br<|a9 C S (aB hV) (eC _) I.up.app.up.up (bR ah) ds (fun s S=>?_)
  exists bZ S (fun ed s S=>?_)
  refine b7 nk<|wpAny_execs_nil<|ec ?_
  intro Kz
  refine aX<|IfExp_ ?_
  exists isTrue_or ?_
  refine wpAny_isTrue_Compare1 ?_
  exists ap S (aB hN) ?_
  refine wpAny_Constant_none<|is_ref_none ?_
  exists ei<|isTrue_or ?_
  refine wpAny_isTrue_Compare1<|Subscript_ ?_
  exists ap S (aB hN)<|ap S (am ah) ?_
  refine cL S (bc (mA mH)) (Int.natCast_nonneg _) (by rw[sizeLine_eq] at gy;exact Gf gy e7) (x:= .str y ty) (by simpa using SA) ?_
  refine wpAny_Constant_none<|is_str_none ?_
  exists ei<|isTrue_or_nil<|cJ ?_
  refine Subscript_ ?_
  exists ap S (aB hN)<|ap S (am ah) ?_
  refine cL S (bc (mA mH)) (Int.natCast_nonneg _) (by rw[sizeLine_eq] at gy;exact Gf gy e7) (x:= .str y ty) (by simpa using SA) ?_
  refine aW S (fun s S=>ec ?_)
  intro Kz
  refine wpAny_Expr<|methodCall_KW ?_
  exists ap S (aV lF) ?_
  refine ft S (mT mH) ?_
  exists Tuple_<|bQ S ah<|aU S (am ah) ?_
  refine ea S aG (fun x7 s S lU=>fb S (Up.tail (Up.tail Up.head)) dw (fun s S=>wpAny_execs_nil ?_))
  replace S:=St.perm S ((List.Perm.swap _ _ _).trans (.cons _ (.swap _ _ _)))
  refine aN (aR S (aR (aV hV) (aV lF) (aV hN)) (eK (c:=(_,_)::aw) (bC rfl ?_)))
  rw[take_snoc IW];exact bq.up.push mH
 refine ay hJ fun z1 z2=>aO z1 fun hV lF hN=>cQ z2 fun vs n aw z3=>ay z3 fun z4 bq=>?_
 clear hJ z1 z2 z3
 refine Wq z4 S fun S=>?_
 have jg:=bX (cG j2)
 have df:=bX (cG kX)
 rw[List.take_of_length_le (by rw[List.length_zip];exact xfS jg)] at bq
 refine ec ?_
 intro Kz
 refine wpAny_Return_some ?_
 exists ap S lF ?_
 refine aT S (fun S=>?_)
 exact ret x4 vs n (aw++[(_,_)]) s (by simpa using S) (fun p hp=>i2 p (.tail _ hp)) (bq.mono fun zz h=>List.mem_append_left _ h)
end
theorem Up.jE{d:Addr}{o':Obj}{l l':List (Addr×Obj)}(u:Up d o o' l l'):(d,o')∈l':=by
 induction u with
 |head=>exact .head _
 |tail u ih=>exact .tail _ ih
theorem Up.keep{d:Addr}{o':Obj}{p:Addr×Obj}{l l':List (Addr×Obj)}(u:Up d o o' l l')(h:p∈l)(n:p.1≠d):p∈l':=by
 induction u with
 |head=>cases h with
  |head=>exact absurd rfl n
  |tail _ h=>exact .tail _ h
 |tail u ih=>cases h with
  |head=>exact .head _
  |tail _ h=>exact .tail _ (ih h)
theorem Up.inst{i K di:Addr}{od o':Obj}(S:St ai ae L s l aa)(hi:(i,instObj K di)∈aa)(hA:bG od al)(u:Up di od o' aa ag):(i,instObj K di)∈ag:=by
 refine u.keep hi fun e=>aP hA fun es n z1=>ay z1 fun z2 z3=>?_
 clear hA z1
 subst z2
 have e:i=di:=e
 subst e
 have:=S.uniq hi u.mem
 cases this
section
theorem pe{v it:Addr}{av wv:Value}{b8 tx:Tok}{k:Nat}(C:Cx gx aH A ae aE az L (dp+1) (un+3))(S:St ai ae L s l aa)(I:Inst aa v 487 (cN (q "character") b8 (.ref it) av))(hi:(it,listOf #[.str x tx] k)∈aa)(ret:∀s',St ai ae L s' l aa→R (.ok (.ret (.str x tx))) s'):codeAny (model af gx.gw) A (.call (.ref 1049) ⟨[.ref v,wv],[]⟩) R s:=by
 refine xby C S (fun g L1 s C S=>bo ?_)
 intro Kz Ez
 refine ec ?_
 intro Kz
 refine br ?_
 exists ap S (am ah) ?_
 refine wpAny_Constant_none<|is_ref_none ?_
 exists ei ?_
 refine wpAny_execs_nil<|ec ?_
 intro Kz
 refine wpAny_If ?_
 exists isTrue_or ?_
 refine wpAny_isTrue_Compare1<|a9 C S (am ah) (eC _) I (bR ah) ds (fun s S=>?_)
 exists bE S (fun bp s S=>km ?_)
 refine gY G8 ?_
 exists isTrue_or ?_
 refine wpAny_isTrue_Compare1<|eU C S (eO _) eL<|spliced_more<|a9 C S (am ah) (ju _) I (aV ah) bA (fun s S=>spliced_none<|eV S hi aG (fun tq s S=>?_))
 exists bf S (fun bO s S=>PyProof.Rows.ne_int ?_)
 refine gY (show(((1:Nat):Int) !=1)=false from rfl) ?_
 exists isTrue_or ?_
 refine wpAny_isTrue_Compare1<|Subscript_<|a9 C S (am ah) (ju _) I (aV ah) bA (fun s S=>?_)
 exists bf S (fun cu s S=>?_)
 refine cL S hi (by decide) (by decide) (x:= .str x tx) rfl<|wpAny_Constant_none<|is_str_none ?_
 exists ei<|isTrue_or_nil<|cJ ?_
 refine wpAny_execs_nil<|ec ?_
 intro Kz
 refine wpAny_Return_some<|Subscript_<|a9 C S (am ah) (ju _) I (aV ah) bA (fun s S=>?_)
 exists bf S (fun fe s S=>?_)
 refine cL S hi (by decide) (by decide) (x:= .str x tx) rfl<|aT S (fun S=>?_)
 exact ret s S
theorem Vx{i di gl:Addr}{od:Obj}{lim:Value}{g:Obj→List (Addr×Obj)}{s4:Value}{b:Bool}(C:Cx gx aH A ae aE az L (dp+1) (un+3))(S:St ai ae L s l aa)(hi:(i,instObj 1442 di)∈aa)(hA:bG od al)(hI:lx b s4 gl lim al)(u:∀o',Up di od o' aa (g o'))(ret:∀dM jO s',St ai ae L s' l (g dM)→bG dM jO→lx false s4 gl lim jO→R (.ok (.ret v)) s'):codeAny (model af gx.gw) A (.call (.ref 1042) ⟨[.ref i,v],[]⟩) R s:=by
 have e7:=fun o'=>Up.inst S hi hA (u o')
 refine xbx C S (fun g1 L1 s C S=>bo ?_)
 intro Kz Ez
 refine kG hI fun a1 a2 a3 a4 a5 a6 t1 t2 t3 t4 kn z1=>?_
 clear hI
 subst z1
 refine ec ?_
 intro Kz
 refine bH ?_
 exists wpAny_Constant_bool<|ap S (am ah) ?_
 refine Gy (pre:=[(q "s4",s4),(q "deparser",.none),(q "warner",.none),(q "signaller",.none),(q "dispatcher",.none),(q "current",.none)]) C S (Pn _) hi hA (bj (bj (bj (bj (bj (bj (dP))))))) aG (fun o=>(u o)) (fun Af s h1 S=>ec ?_)
 intro Kz
 refine wpAny_Return_some ?_
 exists ap S ah ?_
 refine aT S (fun S=>?_)
 exact ret _ _ s S h1 ⟨a1,a2,a3,a4,a5,a6,t1,t2,t3,t4,kn,rfl⟩
theorem xjb{i di gl:Addr}{od:Obj}{lim:Value}{g:Obj→List (Addr×Obj)}{st:Addr}{b:Bool}(C:Cx gx aH A ae aE az L (dp+1) (un+3))(S:St ai ae L s l aa)(hi:(i,instObj 1442 di)∈aa)(hA:bG od al)(hI:lx b (.ref st) gl lim al)(u:∀o',Up di od o' aa (g o'))(ret:∀s',St ai ae L s' l aa→R (.ok (.ret (.ref st))) s'):codeAny (model af gx.gw) A (.call (.ref 889) ⟨[.ref i],[]⟩) R s:=by
 have e7:=fun o'=>Up.inst S hi hA (u o')
 refine Rv C S (fun g1 L1 s C S=>bo ?_)
 intro Kz Ez
 refine kG hI fun a1 a2 a3 a4 a5 a6 t1 t2 t3 t4 kn z1=>?_
 clear hI
 subst z1
 refine ec ?_
 intro Kz
 refine br<|a9 C S ah (Bb _) ⟨_,_,hi,(u od).mem,hA⟩ ah bA (fun s S=>wpAny_Constant_none<|is_ref_none ?_)
 exists ei ?_
 refine wpAny_execs_nil<|ec ?_
 intro Kz
 refine wpAny_Return_some<|a9 C S ah (Bb _) ⟨_,_,hi,(u od).mem,hA⟩ ah bA (fun s S=>aT S (fun S=>?_))
 exact ret s S
theorem xja{i di gl:Addr}{od:Obj}{lim:Value}{g:Obj→List (Addr×Obj)}{b:Bool}(C:Cx gx aH A ae aE az L (dp+5) (un+15))(S:St ai ae L s l aa)(hi:(i,instObj 1442 di)∈aa)(hA:bG od al)(hI:lx b .none gl lim al)(u:∀o',Up di od o' aa (g o'))(ret:∀st sd t td du dc mt jG ki dM jO s',St ai ae L s' l ((du,emptyDict)::(dc,emptyDict)::(t,instObj 409 td)::(td,ki)::(st,instObj 878 sd)::(sd,jG)::g dM)→bG dM jO→lx b (.ref st) gl lim jO→
      bG jG [(q "older",.none),(q "methods",.ref mt),(q "classes",.ref t)]→bG ki [(q "unions",.ref du),(q "classes",.ref dc)]→(du==sysModules)=false→(dc==sysModules)=false→R (.ok (.ret (.ref st))) s'):
  codeAny (model af gx.gw) A (.call (.ref 889) ⟨[.ref i],[]⟩) R s:=by
 have e7:=fun o'=>Up.inst S hi hA (u o')
 refine Rv C S (fun g1 L1 s C S=>bo ?_)
 intro Kz Ez
 refine kG hI fun a1 a2 a3 a4 a5 a6 t1 t2 t3 t4 kn z1=>?_
 clear hI
 subst z1
 refine ec ?_
 intro Kz
 refine br<|a9 C S ah (Bb _) ⟨_,_,hi,(u od).mem,hA⟩ ah Se (fun s S=>wpAny_Constant_none<|is_none_none ?_)
 exists gZ ?_
 refine ec ?_
 intro Kz
 refine bH<|O7 C S (aA (aj (aj (aj (aj (pU _)))))) (Rd _)<|xeL C S (fun d1 x2 d3 d4 d5 x6 d7 x8 d9 xkc xeN TU s S pY nR fX l11 l12 nd5 Js iH=>?_)
 exists ap S ah ?_
 refine Gy (pre:=[]) C S (Vk _) (mT (mT (dK hi))) hA (dP) aG (fun o=>(Up.tail (Up.tail (Up.tail (Up.tail (Up.tail (Up.tail (Up.tail (Up.tail (Up.tail (u o))))))))))) (fun Oz s pZ S=>wpAny_execs_nil<|ec ?_)
 intro Kz
 refine wpAny_Return_some<|a9 C S ah (Bb _) ⟨_,_,(mT (mT (dK (e7 Oz)))),(mT (mT (dK (u Oz).jE))),pZ⟩ ah bA (fun s S=>aT S (fun S=>?_))
 exact ret x8 d9 x6 d7 d4 d5 x2 _ _ _ _ s (S.sub (.cons _ (.cons _ (.cons _ (.cons_cons _ (.cons_cons _ (.cons_cons _ (.cons_cons _ (.cons_cons _ (.cons_cons _ (List.Sublist.refl _))))))))))) pZ ⟨a1,a2,a3,a4,a5,a6,t1,t2,t3,t4,kn,rfl⟩ fX nR Js nd5
end
def GY{β:Type}(P:Str→β→Value→Prop)(cs:List (Str×β))(x:Str)(v:Value):Prop:=match aM cs x with|some b=>P x b v|none=>v= .none
section
theorem GH{b:Bool}(C:Cx gx aH A ae aE az L (dp+3) (un+9))(S:St ai ae L s l aa)(ret:∀x dx od it tk n ti s',St ai ae L s' l ((x,instObj 487 dx)::(dx,od)::(it,listOf #[.int (if b=true then 1 else 0) ti] n)::aa)→bG od (cN (q "logical") tk (.ref it) .none)→(∀p∈aa,p.1<it)→R (.ok (.ret (.ref x))) s'):
  codeAny (model af gx.gw) A (.call (.ref 690) ⟨[.bool b],[]⟩) R s:=by
 refine xcv C S (fun g L1 s C S=>bo ?_)
 intro Kz Ez
 cases b with
 |true=>
  refine ec ?_
  intro Kz
  refine br ?_
  exists ap S ah ?_
  refine wpAny_Constant_none<|is_bool_none ?_
  exists ei ?_
  refine wpAny_execs_nil<|ec ?_
  intro Kz
  refine wpAny_Return_some<|iJ C S (mF _) (kK _) ?_
  exists be S (fun bp s S=>?_)
  refine spliced_more ?_
  exists List_ ?_
  refine spliced_more<|IfExp_<|isTrue_plain ?_
  exists ap S ah<|gZ<|bf S (fun bO s S=>?_)
  refine cF S aG (fun x3 s S fj=>spliced_none<|iE C S<|oK C S (fun x4 d5 kj s S h6 l7 l8=>aT S (fun S=>?_)))
  exact ret x4 d5 _ x3 bp _ bO s S h6 fj
 |false=>
  refine ec ?_
  intro Kz
  refine br ?_
  exists ap S ah ?_
  refine wpAny_Constant_none<|is_bool_none ?_
  exists ei ?_
  refine wpAny_execs_nil<|ec ?_
  intro Kz
  refine wpAny_Return_some<|iJ C S (mF _) (kK _) ?_
  exists be S (fun bp s S=>?_)
  refine spliced_more ?_
  exists List_ ?_
  refine spliced_more<|IfExp_<|isTrue_plain ?_
  exists ap S ah<|ei<|bf S (fun bO s S=>?_)
  refine cF S aG (fun x3 s S fj=>spliced_none<|iE C S<|oK C S (fun x4 d5 kj s S h6 l7 l8=>aT S (fun S=>?_)))
  exact ret x4 d5 _ x3 bp _ bO s S h6 fj
theorem xi1{m:Addr}{ms:Array Value}{mk:Nat}(C:Cx gx aH A ae aE az L (dp+3) (un+9))(S:St ai ae L s l aa)(hm:(m,listOf ms mk)∈aa)(hz:ms.size≤sizeLine)(ret:∀x dx od it tk n s',St ai ae L s' l ((x,instObj 487 dx)::(dx,od)::(it,listOf ms n)::aa)→bG od (cN (q "character") tk (.ref it) .none)→(∀p∈aa,p.1<it)→R (.ok (.ret (.ref x))) s'):
  codeAny (model af gx.gw) A (.call (.ref 683) ⟨[.ref m],[]⟩) R s:=by
 refine xcu C S (fun g L1 s C S=>bo ?_)
 intro Kz Ez
 refine ec ?_
 intro Kz
 refine wpAny_Return_some<|iJ C S (mF _) (kK _) ?_
 exists be S (fun bp s S=>?_)
 refine spliced_more<|fS C S (nP _) nD ?_
 exists aU S ah ?_
 refine oW S hm hz (fun x2 Rj s S dE=>spliced_none<|iE C S<|oK C S (fun x3 d4 jH s S h5 l6 l7=>aT S (fun S=>?_)))
 exact ret x3 d4 _ x2 bp _ s S h5 dE
theorem Ay(C:Cx gx aH A ae aE az L (dp+3) (un+9))(S:St ai ae L s l aa)(ret:∀x dx od it tk n s',St ai ae L s' l ((x,instObj 487 dx)::(dx,od)::(it,listOf #[v] n)::aa)→bG od (cN (q "character") tk (.ref it) .none)→(∀p∈aa,p.1<it)→R (.ok (.ret (.ref x))) s'):
  codeAny (model af gx.gw) A (.call (.ref 1474) ⟨[v],[]⟩) R s:=by
 refine xbQ C S (fun g L1 s C S=>bo ?_)
 intro Kz Ez
 refine ec ?_
 intro Kz
 refine wpAny_Return_some<|iJ C S (mF _) (kK _) ?_
 exists be S (fun bp s S=>?_)
 refine spliced_more ?_
 exists List_<|aU S ah ?_
 refine dm S aG (fun x2 s S dE=>spliced_none<|iE C S<|oK C S (fun x3 d4 jH s S h5 l6 l7=>aT S (fun S=>?_)))
 exact ret x3 d4 _ x2 bp _ s S h5 dE
theorem VE{t dc du:Addr}{cs:List (Str×CA)}{tk:Tok}(C:Cx gx aH A ae aE az L (dp+1) (un+3))(S:St ai ae L s l aa)(T:Tab af gx.gw W aa t dc du cs us)(ret:∀v s',GY (ClsAt W aa) cs x v→St ai ae L s' l aa→R (.ok (.ret v)) s'):
  codeAny (model af gx.gw) A (.call (.ref 364) ⟨[.ref t,.str x tk],[]⟩) R s:=by
 refine xcc C S (fun g L1 s C S=>bo ?_)
 intro Kz Ez
 refine ec ?_
 intro Kz
 refine wpAny_Return_some<|methodCall_KW<|a9 C S (am ah) (lD _) T.i.inst (am ah) bA (fun s S=>Av S T.c ?_)
 exists aU S ah ?_
 refine Pb S T.c (fun y s hy S=>aT S (fun S=>?_))
 exact ret y s (by unfold GY;cases e:aM cs x<;>simp only[e] at hy ⊢<;>exact hy) S
theorem xip(C:Cx gx aH A ae aE az L (dp+1) (un+3))(S:St ai ae L s l aa)(ret:∀d s',St ai ae L s' l ((d,emptyDict)::aa)→(∀p∈aa,p.1<d)→(d==sysModules)=false→R (.ok (.ret (.ref d))) s'):
  codeAny (model af gx.gw) A (.call (.ref 1068) ⟨[.none],[]⟩) R s:=by
 refine xbA C S (fun g L1 s C S=>bo ?_)
 intro Kz Ez
 refine ec ?_
 intro Kz
 refine wpAny_If ?_
 exists isTrue_or ?_
 refine wpAny_isTrue_Compare1 ?_
 exists ap S ah ?_
 refine wpAny_Constant_none<|is_none_none ?_
 exists gZ<|er ?_
 refine ec ?_
 intro Kz
 refine wpAny_Return_some<|i5 C S (fun d1 s S vV iH=>aT S (fun S=>?_))
 exact ret d1 s S vV iH
end
theorem xeA(h:(aq.names.all fun x=>x.2 != .free)=true):∀x∈aq.names,x.2≠.free:=fun x hx=>by
 have:=List.all_eq_true.mp h x hx
 simpa using this
theorem namesOk(h:(aq.names.all fun x=> !(x.2== .local)||aq.names.lookup x.1==some .local)=true):∀y∈aq.names,y.2= .local→aq.names.lookup y.1=some .local:=fun y hy e=>by
 have:=List.all_eq_true.mp h y hy
 rw[e] at this
 simpa using this
theorem uX(h:(aq.names.all fun x=>x.2 != .free)=true):closureFor aq az=pure []:=closureFor_none (xeA h)
inductive cR{α:Type}(P:α→Value→Prop):List Value→List α→Prop
 |nil:cR P [] []
 |cons {a v vs as}:P a v→cR P vs as→cR P (v::vs) (a::as)
section
variable {α:Type} {P P':α→Value→Prop} {vs:List Value} {as:List α}
theorem cR.mono(h:cR P vs as)(k:∀a v,P a v→P' a v):cR P' vs as:=by
 induction h with
 |nil=>exact .nil
 |cons a _ ih=>exact .cons (k _ _ a) ih
theorem cR.len(h:cR P vs as):vs.length=as.length:=by
 induction h with
 |nil=>rfl
 |cons a _ ih=>simp[ih]
theorem cR.snoc(h:cR P vs as){a:α}(p:P a v):cR P (vs++[v]) (as++[a]):=by
 induction h with
 |nil=>exact .cons p .nil
 |cons a _ ih=>exact .cons a ih
theorem cR.get(h:cR P vs as):∀{i:Nat} {v:Value},vs[i]?=some v→∃a,as[i]?=some a∧P a v:=by
 induction h with
 |nil=>intro i v e;simp at e
 |@cons a w _ _ p _ ih=>
  intro i v e
  cases i with
  |zero=>simp at e;subst e;exact⟨a,by simp,p⟩
  |succ i=>simp at e;simpa using ih e
theorem cR.at(h:cR P vs as):∀{i:Nat} {a:α},as[i]?=some a→∃v,vs[i]?=some v∧P a v:=by
 induction h with
 |nil=>intro i v e;simp at e
 |@cons a w _ _ p _ ih=>
  intro i v e
  cases i with
  |zero=>simp at e;subst e;exact⟨w,by simp,p⟩
  |succ i=>simp at e;simpa using ih e
theorem cR.set(h:cR P vs as){a:α}(p:P a v):∀i:Nat,cR P (vs.set i v) (as.set i a):=by
 induction h with
 |nil=>intro i;exact .nil
 |cons q r ih=>
  intro i
  cases i with
  |zero=>exact .cons p r
  |succ i=>exact .cons q (ih i)
theorem cR.rep{a:α}(p:P a v):∀n:Nat,cR P (List.replicate n v) (List.replicate n a)
 |0=> .nil
 |n+1=> .cons p (cR.rep p n)
end
theorem cR.dropLast{α:Type}{P:α→Value→Prop}{vs:List Value}{as:List α}(h:cR P vs as):cR P vs.dropLast as.dropLast:=by
 induction h with
 |nil=>exact .nil
 |cons p r ih=>cases r with
  |nil=>exact .nil
  |cons q r=>exact .cons p ih
theorem xcQ{α σ:Type}{f:σ→α→Option σ}{l:List α}{z st:σ}{i:Nat}{a:α}(ha:l[i]?=some a)(h:(l.take i).foldlM f z=some st):(l.take (i+1)).foldlM f z=f st a:=by
 rw[take_snoc ha,List.foldlM_append,h]
 simp
section
theorem U3{D:Addr}{n:Nat}{k:Int}{t:Tok}{Q:Unit→Shared→Prop}(S:St ai ae L s l aa)(u:Up D (listOf ba n) (listOf (ba.setIfInBounds k.toNat v) n) aa ag)(h0:0≤k)(nW:k<2^63)(hn:k<ba.size)(h:∀s',St ai ae L s' l ag→Q () s'):wpAny (model af w) A (setItem (.ref D) (.int k t) v) Q E s:=by
 refine aP ((u.iK S.D).split) fun pre post z1=>bB z1 fun z2 e2 a b=>?_
 clear z1
 subst z2
 have z:=S.N (D,listOf ba n) (List.mem_append.mpr (.inr (.head _)))
 refine ki_setAt z.1 h0 nW hn (h _ ⟨S.F.change (Heap.SameBut.update ..) z.2.1 z.2.2,?_,u.keys▸S.D,by rw[S.R]⟩)
 subst e2
 exact ki_turn _ S.N a b rfl (by simp)
theorem Gt{d:Addr}{aD:List (Str×Value)}{b:Bool}{tk:Tok}(S:St ai ae L s l aa)(hm:(d,o)∈aa)(hd:o.IsDictOf (PySem.strKind af w) aD)(lo:(d==sysModules)=false)(hb:(valueAt aD x).isSome=b)(h:∀s',St ai ae L s' l aa→Q (.bool b) s'):wpAny (model af w) A (compareOp .In (.str x tk) (.ref d)) Q E s:=kda_in (knd:=PySem.strKind af w) S.N hm hd lo (strKind_is _ _ _ _) _ hb (h _ S.tick)
theorem U8(v:Value):∀(n:Nat) (acc:Array Value),List.foldl (fun x1 x2=>x1++x2) acc (List.replicate n #[v])=acc++(List.replicate n v).toArray
 |0,acc=>by simp
 |n+1,acc=>by
  rw[List.replicate_succ,List.foldl_cons,U8 v n]
  apply Array.toList_inj.mp
  simp[List.replicate_succ]
theorem xhK{k n:Nat}{u:Tok}(S:St ai ae L s l aa)(hm:(a,listOf #[v] k)∈aa)(hz:n≤sizeLine)(h:∀x s',St ai ae L s' l ((x,listOf (List.replicate n v).toArray 0)::aa)→(∀p∈aa,p.1<x)→Q (.ref x) s'):wpAny (model af w) A (binaryOp .Mult (.ref a) (.int (n:Int) u)) Q E s:=by
 rw[sizeLine_eq] at hz
 refine mul_list S.F S.N (S.N _ hm).1 (by exact xfX) (by exact T7 hz) (by simp;exact xfW hz) fun h' F' N'=>?_
 have e:(List.foldl (fun x1 x2=>x1++x2) #[] (List.replicate (if (#[v]:Array Value).isEmpty=true then 0 else (n:Int).toNat) #[v]))=(List.replicate n v).toArray:=by
  have:(if (#[v]:Array Value).isEmpty=true then 0 else (n:Int).toNat)=n:=by simp
  rw[this,U8];simp
 rw[e] at N'
 exact h _ _ (S.to F' N' (S.nd S.lt)) S.lt
end
theorem vX{β:Type}{v:β}{l:List (Str×β)}:List.lookup x ((x,v)::l)=some v:=by simp[List.lookup_cons]
section
theorem xhq{x K:Addr}{ex:Bool}(X:(KF w.params).In ae)(S:St ai ae L s l aa)(g:nM (KF w.params) K nm=true)(I:Inst aa x K al)(hl:al.lookup nm=some v)(hv:handedIn v=true)(h:∀s',St ai ae L s' l aa→Q v s'):wpAny (model af w) A (getAttr (.ref x) nm ex) Q E s:=by
 refine aP I fun dx od z1=>aO z1 fun m1 m2 hA=>?_
 clear I z1
 refine aP hA.look fun es n z1=>ay z1 fun z2 hg=>?_
 clear z1
 subst z2
 unfold nM at g
 obtain⟨g,g3⟩:=Bool.and_eq_true_iff.mp g
 obtain⟨g1,g2⟩:=Bool.and_eq_true_iff.mp g
 cases hf:findIn (KF w.params) (.ref K) nm with
 |none=>rw[hf] at g3;cases g3
 |some a=>
  rw[hf] at g3
  exact get_own S.F X (InstAt.of_news S.N m1 m2) g1 g2 hf g3 (by rw[hg,hl]) hv (h _ S.tick)
theorem UY{d:Addr}{aD:List (Str×Value)}{tk:Tok}{value slice:Expr}(S:St ai ae L s l aa)(hm:(d,o)∈aa)(hd:o.IsDictOf (PySem.strKind af w) aD)(hv:valueAt aD x=some v)(h:∀s',St ai ae L s' l aa→Q v s')(hs:autoParam (subscripted slice false (.ref d) (.str x tk)=operate [.ref d,.str x tk] (getItem (.ref d) (.str x tk))) wr):
  wpAny (model af w) A (subscriptTail value slice (.ref d) (.str x tk)) Q E s:=
 kdt_tail (knd:=PySem.strKind af w) S.N hm hd (kdt_getItem (knd:=PySem.strKind af w) S.N hm hd (strKind_is _ _ _ _) hv (h _ S.tick)) hs
theorem nl{px py tp:Pos}{kk:Nat}{t:Addr}{u:Value}{n:Nat}{Q:Unit→Shared→Prop}(hh:A.handled=none)(S:St ai ae L s l aa)(hL:ev.locals=L)(ht:(t,({cls:= .type "tuple",data:= .seq #[u,v] n}:Obj))∈aa)(h:∀s',St ai ae L s' ((y,v)::(x,u)::l) aa→Q () s')(hk:autoParam (ev.scope.kind= .function) kr)(hx:autoParam (ev.kindOf x=some .local) kr)(hy:autoParam (ev.kindOf y=some .local) kr):
  wpAny (model af w) A (assign (.Tuple [.Name x px,.Name y py] kk tp) ev (.ref t)) Q E s:=by
 refine assign_Tuple_tuple hh (S.tup ht) rfl rfl fun h' he=>?_
 have S1:St ai ae L {s with heap:=h'} l aa:=by
  have hn:ae.get? s.heap.objs.size=none:=by
   cases q:ae.get? s.heap.objs.size with
   |none=>rfl
   |some o=>exact absurd (Heap.lt_size (S.F.keep _ _ q)) (Nat.lt_irrefl _)
  refine⟨S.F.extBut he (Nat.le_refl _),fun p hp=>?_,S.D,by rw[S.R]⟩
  have z:=S.N p hp
  exact⟨he _ _ (Nat.ne_of_lt (Heap.lt_size z.1)) z.1,z.2⟩
 show wpAny _ _ (assignInOrder [assign (.Name x px) ev,assign (.Name y py) ev] [u,v]) _ _ _
 refine assignInOrder_cons (mf S1 hL (hk:=hk) (hl:=hx) fun s2 S2=>?_)
 exact assignInOrder_cons (mf S2 hL (hk:=hk) (hl:=hy) fun s3 S3=>assignInOrder_nil (h _ S3))
end
def Wx(W W':List Addr)(aa:List (Addr×Obj)):Prop:=(∀a∈W,a∈W')∧∀a∈W',a∈W∨∀p∈aa,p.1≠a
theorem Wx.refl{W aa}:Wx W W aa:=⟨fun zz h=>h,fun zz h=> .inl h⟩
theorem Wx.trans{W W' mw aa ag}(h:Wx W W' aa)(h':Wx W' mw ag)(k:∀p∈aa,∃o,(p.1,o)∈ag):Wx W mw aa:=
 ⟨fun a m=>h'.1 a (h.1 a m),fun a m=>by
  rcases h'.2 a m with x|x
  ·exact h.2 a x
  ·exact .inr fun p hp=>by obtain⟨o,ho⟩:=k p hp;exact x (p.1,o) ho⟩
theorem Fz.step{W W' F aa ag a o}(h:Fz W aa a o)(k:Kp F aa ag)(hF:∀a∈F,a∈W)(x:Wx W W' aa):Fz W' ag a o:=
 ⟨k _ h.1 fun m=>h.2 (hF _ m),fun m=>by
  rcases x.2 _ m with y|y
  ·exact h.2 y
  ·exact y _ h.1 rfl⟩
theorem cC.step{W W' F aa ag x K al}(h:cC W aa x K al)(k:Kp F aa ag)(hF:∀a∈F,a∈W)(g:Wx W W' aa):cC W' ag x K al:=by
 obtain⟨dx,od,a,b,c⟩:=h
 exact⟨dx,od,a.step k hF g,b.step k hF g,c⟩
theorem fy.step{W W' F aa ag x ys}(h:fy W aa x ys)(k:Kp F aa ag)(hF:∀a∈F,a∈W)(g:Wx W W' aa):fy W' ag x ys:=by
 obtain⟨vs,n,a,b⟩:=h
 exact⟨vs,n,a.step k hF g,b⟩
theorem kJ.step{W W' F aa ag sl b}(h:kJ W aa sl b)(k:Kp F aa ag)(hF:∀a∈F,a∈W)(g:Wx W W' aa):kJ W' ag sl b:=by
 cases b with
 |true=>obtain⟨n,a⟩:=h;exact⟨n,a.step k hF g⟩
 |false=>obtain⟨n,tp,t1,t2,m,a,b⟩:=h;exact⟨n,tp,t1,t2,m,a.step k hF g,b.step k hF g⟩
theorem ClsAt.step{W W' F aa ag nm ca v}(h:ClsAt W aa nm ca v)(k:Kp F aa ag)(hF:∀a∈F,a∈W)(g:Wx W W' aa):ClsAt W' ag nm ca v:=by
 obtain⟨c,tk,sl,cl,pr,e,a,b,d⟩:=h
 exact⟨c,tk,sl,cl,pr,e,a.step k hF g,b.step k hF g,d.step k hF g⟩
theorem fW.step{W W' F aa ag nm ms v}(h:fW W aa nm ms v)(k:Kp F aa ag)(hF:∀a∈F,a∈W)(g:Wx W W' aa):fW W' ag nm ms v:=by
 obtain⟨u,e,a⟩:=h
 exact⟨u,e,a.step k hF g⟩
inductive AO(af:Program)(w:World)(W:List Addr)(aa:List (Addr×Obj)):Value→List Addr→List (Str×CA)→List (Str×List Str)→Prop
 |u:AO af w W aa .none [] [] []
 |i {st mt t dc du cs us}:cC W aa st 878 [(q "older",.none),(q "methods",.ref mt),(q "classes",.ref t)]→Tab af w W aa t dc du cs us→dc∈W→du∈W→dc≠du→AO af w W aa (.ref st) [dc,du] cs us
structure Sys(af:Program)(w:World)(W:List Addr)(aa:List (Addr×Obj))(i di gl:Addr)(F:List Addr)(b:Bool)(cs:List (Str×CA))(us:List (Str×List Str)):Prop where
 hi:Fz W aa i (instObj 1442 di)
 eZ:di∈W
 ex:∃od al lim s4,(di,od)∈aa∧bG od al∧lx b s4 gl lim al∧AO af w W aa s4 F cs us
 hW:∀a∈W,∃o,(a,o)∈aa
 hF:di∉F
theorem Sys.iz{af w W aa i di gl F b cs us}(Y:Sys af w W aa i di gl F b cs us):∀a∈di::F,a∈W:=fun a h=>by
 rcases List.mem_cons.mp h with rfl|h
 ·exact Y.eZ
 ·refine cB Y.ex fun z1 z2 z3 z4 z5=>bB z5 fun z6 z7 z8 T=>?_
  clear z5
  cases T with
  |u=>cases h
  |i _ _ h1 h2 _=>
   rcases List.mem_cons.mp h with rfl|h
   ·exact h1
   ·rcases List.mem_cons.mp h with rfl|h
    ·exact h2
    ·cases h
theorem Sys.new{af w W aa i di gl F b cs us}(Y:Sys af w W aa i di gl F b cs us){x:Addr}(h:∀p∈aa,p.1<x):x∉W:=fun m=>by
 obtain⟨o,ho⟩:=Y.hW x m
 exact absurd (h _ ho) (Nat.lt_irrefl _)
theorem Sys.mem{af w W aa ag i di gl F b cs us}(Y:Sys af w W aa i di gl F b cs us)(k:∀p∈aa,p∈ag):Sys af w W ag i di gl F b cs us:=by
 refine cB Y.ex fun od al lim s4 z1=>bB z1 fun m hA hI T=>?_
 clear z1
 refine⟨Y.hi.mono (.fq k),Y.eZ,⟨od,al,lim,s4,k _ m,hA,hI,?_⟩,fun a h=>let ⟨o,ho⟩:=Y.hW a h;⟨o,k _ ho⟩,Y.hF⟩
 cases T with
 |u=>exact .u
 |i a T h1 h2 h3=>exact .i (a.mono (.fq k)) ⟨T.i.mono (.fq k),T.c.mono (fun zz zz zz h=>h.mono (.fq k)) fun zz h=>k _ h,T.u.mono (fun zz zz zz h=>h.mono (.fq k)) fun zz h=>k _ h,T.z⟩ h1 h2 h3
theorem Sys.up{af w W aa i di gl F b cs us}{p:Addr×Obj}(Y:Sys af w W aa i di gl F b cs us):Sys af w W (p::aa) i di gl F b cs us:=Y.mem fun zz h=> .tail _ h
theorem Sys.app{af w W aa aw i di gl F b cs us}(Y:Sys af w W aa i di gl F b cs us):Sys af w W (aw++aa) i di gl F b cs us:=Y.mem fun zz h=>mA h
theorem cC.up{W aa x K al}{p:Addr×Obj}(h:cC W aa x K al):cC W (p::aa) x K al:=h.mono (.fq fun zz m=> .tail _ m)
theorem cC.app{W aa aw x K al}(h:cC W aa x K al):cC W (aw++aa) x K al:=h.mono (.fq fun zz m=>mA m)
theorem fy.up{W aa x ys}{p:Addr×Obj}(h:fy W aa x ys):fy W (p::aa) x ys:=h.mono (.fq fun zz m=> .tail _ m)
theorem fy.app{W aa aw x ys}(h:fy W aa x ys):fy W (aw++aa) x ys:=h.mono (.fq fun zz m=>mA m)
theorem Fz.up{W aa a o}{p:Addr×Obj}(h:Fz W aa a o):Fz W (p::aa) a o:=h.mono (.fq fun zz m=> .tail _ m)
theorem Fz.app{W aa aw a o}(h:Fz W aa a o):Fz W (aw++aa) a o:=h.mono (.fq fun zz m=>mA m)
theorem Kp.sub{F aa ag bD}(k:Kp F ag bD)(h:∀p∈aa,p∈ag):Kp F aa bD:=fun p hp hw=>k p (h p hp) hw
section
theorem xi9{i di gl:Addr}{F:List Addr}{b:Bool}{cs us}(C:Cx gx aH A ae aE az L (dp+5) (un+15))(S:St ai ae L s l aa)(Y:Sys af gx.gw W aa i di gl F b cs us)(ret:∀W' ag st mt t dc du s',St ai ae L s' l ag→Wx W W' aa→Kp (di::F) aa ag→Sys af gx.gw W' ag i di gl [dc,du] b cs us→cC W' ag st 878 [(q "older",.none),(q "methods",.ref mt),(q "classes",.ref t)]→Tab af gx.gw W' ag t dc du cs us→(∀p∈aa,∃o,(p.1,o)∈ag)→
      (∀a∈[dc,du],a∈F∨∀p∈aa,p.1≠a)→R (.ok (.ret (.ref st))) s'):
  codeAny (model af gx.gw) A (.call (.ref 889) ⟨[.ref i],[]⟩) R s:=by
 refine cB Y.ex fun od al lim s4 z1=>bB z1 fun m hA hI T=>?_
 clear z1
 cases T with
 |u=>
  refine aS (Up.OB (o':=od) m) fun e9 z1=>aO z1 fun u z2 z3=>?_
  clear z1
  obtain⟨pre,post,el,a,b⟩:∃pre post,aa=pre++(di,od)::post∧(∀p∈pre,p.1≠di)∧∀p∈post,p.1≠di:=by
   refine aP ((u.iK S.D).split) fun pre post z1=>bB z1 fun e1 z2 a b=>?_
   clear z1
   exact aN (a:=pre) (b:=post) (aR e1 a b)
  have ug:∀o',Up di od o' (aa) (pre++(di,o')::post):=fun o'=>by rw[el];exact Up.app .head
  refine xja (g:=fun o'=>pre++(di,o')::post) C S Y.hi.1 hA hI ug fun st sd t td du dc mt jG ki dM jO s' S' hA' hI' h1 h2 n1 n2=>?_
  have keep:∀p∈aa,p.1≠di→p∈pre++(di,dM)::post:=fun p hp hn=>(ug dM).keep hp hn
  have nd:=S'.D
  simp only[List.map_cons,List.nodup_cons,List.mem_cons,not_or] at nd
  refine pk nd fun z1 z2 z3 z4 z5 m6 z6=>kF z1 fun d1 d2 d3 d4 d5 d6=>eJ z2 fun e2 e3 e4 e5 e6=>bB z3 fun f3 f4 f5 f6=>aO z4 fun g4 g5 g6=>ay z5 fun k5 k6=>?_
  clear nd z1 z2 z3 z4 z5
  have old:∀p∈aa,p.1∈(pre++(di,dM)::post).map (·.1):=fun p hp=>by
   rw[(ug dM).keys];exact ka hp
  have fr:∀x,x∉(pre++(di,dM)::post).map (·.1)→∀p∈aa,p.1≠x:=fun x hx p hp e=>hx (e▸old p hp)
  have Sa:∀a∈W,a∈(pre++(di,dM)::post).map (·.1):=fun a ha=>by obtain⟨o,ho⟩:=Y.hW a ha;exact old _ ho
  have ni:∀x,x∉(pre++(di,dM)::post).map (·.1)→x≠dc→x≠du→x∉dc::du::W:=fun x hx h1 h2 hm=>by
   rcases List.mem_cons.mp hm with e|hm
   ·exact h1 e
   ·rcases List.mem_cons.mp hm with e|hm
    ·exact h2 e
    ·exact hx (Sa x hm)
  have xdr:(di,dM)∈pre++(di,dM)::post:=List.mem_append_right _ (.head _)
  have gW:Wx W (dc::du::W) (aa):=⟨fun a h=> .tail _ (.tail _ h),fun a h=>by
   rcases List.mem_cons.mp h with rfl|h
   ·exact .inr (fr _ e6)
   ·rcases List.mem_cons.mp h with rfl|h
    ·exact .inr (fr _ d6)
    ·exact .inl h⟩
  have K:Kp [di] (aa) ((du,emptyDict)::(dc,emptyDict)::(t,instObj 409 td)::(td,ki)::(st,instObj 878 sd)::(sd,jG)::(pre++(di,dM)::post)):=fun p hp hn=>
   .tail _ (.tail _ (.tail _ (.tail _ (.tail _ (.tail _ (keep p hp fun e=>hn (by rw[e];exact .head _)))))))
  have I1:cC (dc::du::W) ((du,emptyDict)::(dc,emptyDict)::(t,instObj 409 td)::(td,ki)::(st,instObj 878 sd)::(sd,jG)::(pre++(di,dM)::post)) st 878 [(q "older",.none),(q "methods",.ref mt),(q "classes",.ref t)]:=
   ⟨sd,jG,⟨mT (b5 mH),ni _ k6 (Ne.symm e4) (Ne.symm d4)⟩,⟨mT (ch mH),ni _ m6 (Ne.symm e5) (Ne.symm d5)⟩,h1⟩
  have T1:Tab af gx.gw (dc::du::W) ((du,emptyDict)::(dc,emptyDict)::(t,instObj 409 td)::(td,ki)::(st,instObj 878 sd)::(sd,jG)::(pre++(di,dM)::post)) t dc du [] []:=
   ⟨⟨td,ki,⟨mT (mT mH),ni _ f6 (Ne.symm e2) (Ne.symm d2)⟩,⟨mT (bc mH),ni _ g6 (Ne.symm e3) (Ne.symm d3)⟩,h2⟩,
    ⟨⟨emptyDict,[],mT mH,lB,.nil⟩,n2⟩,⟨⟨emptyDict,[],mH,lB,.nil⟩,n1⟩,⟨by simp,(fun zz h=>by cases h),by simp,(fun zz h=>by cases h)⟩⟩
  refine ret (dc::du::W) _ st mt t dc du s' S' gW K ⟨?_,.tail _ (.tail _ Y.eZ),⟨dM,jO,lim,_,?_,hA',hI',.i I1 T1 (.head _) (.tail _ (.head _)) (fun e=>d1 e.symm)⟩,?_,?_⟩ I1 T1 ?_ ?_
  ·have eD:i≠di:=fun e=>by
    subst e
    have:=S.uniq Y.hi.1 m
    refine aP hA fun es n z1=>ay z1 fun z2 z3=>?_
    clear hA z1
    subst z2
    cases this
   exact⟨K _ Y.hi.1 fun h=>eD (by simpa using h),fun hm=>by
    rcases gW.2 _ hm with y|y
    ·exact Y.hi.2 y
    ·exact y _ Y.hi.1 rfl⟩
  ·exact .tail _ (.tail _ (.tail _ (.tail _ (.tail _ (.tail _ xdr)))))
  ·intro a h
   rcases List.mem_cons.mp h with rfl|h
   ·exact⟨_,mT mH⟩
   ·rcases List.mem_cons.mp h with rfl|h
    ·exact⟨_,mH⟩
    ·refine aS (List.mem_map.mp (Sa a h)) fun p z1=>ay z1 fun hp e=>?_
     clear z1
     exact⟨p.2,by rw[←e];exact .tail _ (.tail _ (.tail _ (.tail _ (.tail _ (.tail _ hp)))))⟩
  ·intro h
   rcases List.mem_cons.mp h with e|h
   ·exact fr _ e6 (di,od) m e
   ·rcases List.mem_cons.mp h with e|h
    ·exact fr _ d6 (di,od) m e
    ·cases h
  ·intro p hp
   refine aS (List.mem_map.mp (old p hp)) fun z z1=>ay z1 fun hz e=>?_
   clear z1
   exact⟨z.2,by rw[←e];exact .tail _ (.tail _ (.tail _ (.tail _ (.tail _ (.tail _ hz)))))⟩
  ·intro a h
   rcases List.mem_cons.mp h with rfl|h
   ·exact .inr (fr _ e6)
   ·rcases List.mem_cons.mp h with rfl|h
    ·exact .inr (fr _ d6)
    ·cases h
 |@i st mt t dc du cs us a T h1 h2 h3=>
  refine aS (Up.OB (o':=od) m) fun e9 z1=>aO z1 fun u z2 z3=>?_
  clear z1
  have ug:∃g:Obj→List (Addr×Obj),∀o',Up di od o' aa (g o'):=by
   refine aP ((u.iK S.D).split) fun pre post z1=>bB z1 fun e1 z2 a b=>?_
   clear z1
   exact⟨fun o'=>pre++(di,o')::post,fun o'=>by rw[e1];exact Up.app .head⟩
  obtain⟨g,ug⟩:=ug
  refine xjb (C.weak (A2:=dp+1) (GJ:=un+3) (by exact xfZ) (by exact xfY)) S Y.hi.1 hA hI ug fun s' S'=>?_
  exact ret W aa st mt t dc du s' S' .refl (fun p hp zz=>hp) Y a T (fun p hp=>⟨p.2,hp⟩) fun a h=> .inl h
end
section
noncomputable def Jb(aK:List (Str×Int)):Int:=((aK[aK.length- 1]?).map (·.2)).getD 0
noncomputable def dn(cs:List (Str×CA))(us:List (Str×List Str))(x:Str):List (Str×Int):=(jJ cs us x++[(q "ANY",Jb (jJ cs us x)+1)]).tail
theorem Pt{t dc du:Addr}{cs:List (Str×CA)}{tk:Tok}(C:Cx gx aH A ae aE az L (dp+5) (un+15))(S:St ai ae L s l aa)(T:Tab af gx.gw W aa t dc du cs us)(hx:(x==q "ANY")=false)(ret:∀r vs n aw s',St ai ae L s' l ((r,listOf vs n)::(aw++aa))→cZ aw vs.toList (dn cs us x)→R (.ok (.ret (.ref r))) s'):
  codeAny (model af gx.gw) A (.call (.ref 392) ⟨[.ref t,.str x tk],[]⟩) R s:=by
 refine xcg C S (fun g L1 s C S=>bo ?_)
 intro Kz Ez
 refine ec ?_
 intro Kz
 refine aX ?_
 exists List_ ?_
 refine spliced_more ?_
 exists Tuple_<|bQ S ah ?_
 refine spliced_more ?_
 exists bf S (fun tq s S=>?_)
 refine spliced_none<|ea S aG (fun x1 s S eA=>cF S aG (fun x2 s S dE=>aW S (fun s S=>ec ?_)))
 intro Kz
 refine aX<|UU C S rfl rfl (by simp) (by decide) (fun d s S Iu=>pairTrees_cons_walk ?_)
 exists ap S (am ah)<|wpAny_Constant_bool ?_
 refine pairTrees_cons_walk ?_
 exists bE S (fun tq s S=>wpAny_Constant_bool ?_)
 refine pairTrees_nil_walk<|bC S (iu (a:=[(x,.bool true),(q "ANY",.bool true)]) (bC ⟨strKind_is _ _ _ _,rfl,strKind_is _ _ _ _,rfl,trivial⟩ (fun o s ho S=>aW S (fun s S=>ec ?_))))
 intro Kz
 refine aX ?_
 exists bf S (fun tq s S=>?_)
 refine aW S (fun s S=>ec ?_)
 intro Kz
 have hU:=VY T.z x
 replace S:=S.sw
 refine U7 (fun n l' ag=>∃(i:Nat) (rw:List (Str×Int)) (vs:Array Value) (m:Nat) (aD:List (Str×Value)) (o:Obj) (aw:List (Addr×Obj)) (ta:Tok),n+i=(univ cs us x).length∧(l'.lookup (q "self")=some (.ref t)∧l'.lookup (q "name")=some (.str x tk)∧l'.lookup (q "rows")=some (.ref x2)∧l'.lookup (q "seen")=some (.ref d)∧l'.lookup (q "at")=some (.int (i:Int) ta))∧
   ag=(x2,listOf vs m)::(d,o)::(aw++aa)∧cZ aw vs.toList rw∧o.IsDictOf (PySem.strKind af gx.gw) aD∧fM aD rw∧Good cs us x rw∧gj cs us n i rw=jJ cs us x)
  (univ cs us x).length S ⟨0,[(x,0)],_,_,_,o,[(x1,_)],_,rfl,⟨(bR ah),(aV ah),(aB ah),(am ah),ah⟩,rfl,.cons mH .nil,ho,fM.start x,Good.one,rfl⟩ (fun n s l' ag hJ S=>?_)
 refine V9 hJ fun i Pl vs m aD o aw ta z1=>GR z1 fun hn z2 z3 cy ho c9 G hb=>eJ z2 fun hS hX hR hD hA=>?_
 clear hJ z1 z2
 refine Wq z3 S fun S=>?_
 have fh:=bX (cy.len)
 have hG:=G.len
 have dw:vs.size≤sizeLine:=by rw[sizeLine_eq];exact Uo hU fh hG
 have Tu:Tab af gx.gw W (aw++aa) t dc du cs us:=T.app
 refine wpAny_isTrue_Compare1 ?_
 exists ap S hA ?_
 refine eU C S (eO _) eL ?_
 exists aU S hR ?_
 refine eV S mH dw (fun tq s S=>Gv ?_)
 exists bV (fun c0=>?_) (fun c0=>?_)
 ·have hi:i<vs.size:=by simpa using c0
  refine f9 (cy.get (i:=i) (v:=vs[i]) (by simp[hi])) fun t1 one k jK gX kA z1=>aO z1 fun oh dC dR=>?_
  clear z1
  refine ec ?_
  intro Kz
  refine U6<|Subscript_ ?_
  exists ap S hR<|ap S hA ?_
  refine UX S mH (Int.natCast_nonneg _) (by exact xf8 hU fh hG hi) (x:=vs[i]) (by simp[hi]) ?_
  rw[oh]
  refine uw C S (bc (List.mem_append_left _ dR)) (fun s S=>ec ?_)
  intro Kz
  refine wpAny_AugAssign_Name<|UZ S (aB hA) ?_
  exists bf S (fun tq s S=>?_)
  refine Pc S (fun ta s S=>aW S (fun s S=>ec ?_))
  intro Kz
  refine uh<|methodCall_KW ?_
  exists ap S (aV hS) ?_
  refine fw C S (ij (jd _) (kl _) ⟨aA (aj (aj (aj (aj (qH _))))),aj (aj (aj (aj (aj (qH _)))))⟩) Tu.up.up.i.inst (bj (bj (dP))) ?_
  exists aU S (aB ah) ?_
  refine bh C S<|xiS C S Tu.up.up (fun x3 nt oM s S j9=>?_)
  refine U0 C S (fun j l' ag=>∃(vs:Array Value) (m:Nat) (aD:List (Str×Value)) (o:Obj) (aw:List (Addr×Obj)),(l'.lookup (q "self")=some (.ref t)∧l'.lookup (q "name")=some (.str x tk)∧l'.lookup (q "rows")=some (.ref x2)∧l'.lookup (q "seen")=some (.ref d)∧l'.lookup (q "at")=some (.int ((i:Int)+1) ta)∧l'.lookup (q "steps")=some (.int k gX))∧
   ag=(x3,listOf nt oM)::(x2,listOf vs m)::(d,o)::(aw++aa)∧cZ aw vs.toList (((i4 cs us one).take j).foldl (fN k) Pl)∧o.IsDictOf (PySem.strKind af gx.gw) aD∧fM aD (((i4 cs us one).take j).foldl (fN k) Pl)∧Good cs us x (((i4 cs us one).take j).foldl (fN k) Pl))
   nt.size ⟨vs,m,aD,o,aw,⟨(aV hS),(aV hX),(aV hR),(aV hD),ah,(am ah)⟩,rfl,cy,ho,c9,G⟩ (fun j l' ag hJ=>by obtain⟨_,_,_,_,_,_,rfl,_⟩:=hJ;exact⟨_,_,mH,Nat.le_refl _⟩) (fun j v pv pn s l' ag it hJ j4 iY S=>?_) (fun j pv pn s l' ag hJ j4 iY S=>?_)
  ·refine eY hJ fun vs m aD o aw z1=>kF z1 fun z2 z3 cy ho c9 G=>kF z2 fun hS hX hR hD hA hK=>?_
   clear hJ z1 z2
   subst z3
   have dv:=S.uniq (mT j4) (mT mH)
   injection dv with _ _ dv _;injection dv with dv _;subst dv
   refine aP (eW j9 (i:=j) (by simpa using iY)) fun p tp z1=>ay z1 fun z2 hp=>?_
   clear z1
   subst z2
   have fh:=bX (cy.len)
   have hG:=G.len
   have dw:vs.size≤sizeLine:=by rw[sizeLine_eq];exact Uo hU fh hG
   have cV:=c9.len (by obtain⟨_,_,_,_,_,_,hn⟩:=ho;exact hn)
   refine ec ?_
   intro Kz
   refine br ?_
   exists ap S ah<|ap S (am hD) ?_
   refine uq S (b5 mH) ho Iu (fun s S=>?_)
   exists bV (fun c1=>?_) (fun c1=>?_)
   ·refine ec ?_
    intro Kz
    refine wpAny_Assign_Subscript ?_
    exists wpAny_Constant_bool<|ap S (am hD)<|ap S ah ?_
    refine jn S (fun zz=>(Up.tail (Up.tail (Up.tail Up.head)))) ho (by rw[sizeLine_eq];exact xf7 hU hG cV) (fun o2 s fg S=>?_)
    refine ec ?_
    intro Kz
    refine wpAny_Expr<|methodCall_KW ?_
    exists ap S (am hR) ?_
    refine ft S (bc mH) ?_
    exists Tuple_<|bQ S ah ?_
    refine spliced_more ?_
    exists wpAny_BinOp<|ap S (am hK)<|bf S (fun tq s S=>?_)
    refine At S (fun tq s S=>spliced_none<|ea S aG (fun x4 s S i2=>fb S (Up.tail (Up.tail (Up.tail Up.head))) dw (fun s S=>wpAny_execs_nil<|wpAny_execs_nil<|aN (bC S.wb (iy (d:=o2) (e:=(x4,_)::aw) (nu (nu (am hS) (am hX) (am hR) (am hD) (am hA) (am hK)) rfl ?_ fg ?_ ?_))))))
    ·rw[dq _ _ hp,Qj c9 c1];exact(cy.mono fun zz h=>mT h).push mH
    ·rw[dq _ _ hp,Qj c9 c1];exact c9.add
    rw[dq _ _ hp];exact G.add (Gk (List.mem_of_getElem? hp))
   ·refine wpAny_execs_nil<|wpAny_execs_nil<|aN (bC S (iy (d:=o) (e:=aw) (nu (nu (am hS) (am hX) (am hR) (am hD) (am hA) (am hK)) rfl ?_ ho ?_ ?_)))
    ·rw[dq _ _ hp,Qi c9 c1];exact cy
    ·rw[dq _ _ hp,Qi c9 c1];exact c9
    rw[dq _ _ hp];exact G.add (Gk (List.mem_of_getElem? hp))
  refine eY hJ fun vs m aD o aw z1=>kF z1 fun z2 z3 cy ho c9 G=>kF z2 fun hS hX hR hD hA hK=>?_
  clear hJ z1 z2
  subst z3
  have dv:=S.uniq j4 mH
  injection dv with _ _ dv _;injection dv with dv _;subst dv
  have dQ:=bX (cG j9)
  have n0:pv.size≤j:=by
   rcases Nat.lt_or_ge j pv.size with z|z
   ·rw[Array.getElem?_eq_getElem z] at iY;cases iY
   ·exact z
  have hj:(i4 cs us one).take j=i4 cs us one:=List.take_of_length_le (by exact ON dQ n0)
  rw[hj] at cy c9 G
  refine wpAny_execs_nil ?_
  obtain⟨n,rfl⟩:∃n1,n=n1+1:=⟨n- 1,by exact xf6 hn fh hG hi⟩
  refine eK (a:=n) (aR (Nat.lt_succ_self _) S.drop (xI8 (a:=i+1) (c:=vs) (d:=m) (e:=aD) (f:=o) (g:=aw) (h:=ta) (uL (by exact xf5 hn) (iL hS hX hR hD (by simpa using hA)) rfl cy ho c9 G ?_)))
  rw[←hb,AW dC]
 ·have hi:¬i<vs.size:=by simpa using c0
  rw[pA (by rw[List.getElem?_eq_none];exact xf4 fh hi)] at hb;subst hb
  have n9:=xh2 (cs:=cs) (us:=us) (x:=x)
  have nY:vs.size- 1<vs.size:=by exact xf3 fh n9
  refine f9 (cy.get (i:=vs.size- 1) (v:=vs[vs.size- 1]) (by simp[nY])) fun t1 one k jK gX kA z1=>aO z1 fun oh dC dR=>?_
  clear z1
  have xdy:Jb (jJ cs us x)=k:=by unfold Jb;rw[←fh,dC];rfl
  refine ec ?_
  intro Kz
  refine br ?_
  exists ap S hX<|bE S (fun tq s S=>?_)
  refine km ?_
  exists bV (fun c1=>?_) (fun c1=>?_)
  ·refine ec ?_
   intro Kz
   refine wpAny_Expr<|methodCall_KW ?_
   exists ap S hR ?_
   refine ft S mH ?_
   exists Tuple_<|be S (fun tq s S=>?_)
   refine spliced_more ?_
   exists wpAny_BinOp ?_
   refine Subscript_<|Subscript_ ?_
   exists ap S hR<|wpAny_BinOp ?_
   refine eU C S (eO _) eL ?_
   exists aU S hR ?_
   refine eV S mH dw (fun tq s S=>?_)
   exists bf S (fun tq s S=>?_)
   refine Pj S (fun tq s S=>?_)
   refine UX S mH (by exact Un nY) (by exact xf2 hU fh hG) (x:=vs[vs.size- 1]) (by rw[show((vs.size:Int)- 1).toNat=vs.size- 1 by exact Um];simp[nY]) ?_
   rw[oh]
   exists bf S (fun tq s S=>?_)
   refine li S (bc (List.mem_append_left _ dR)) (by decide) (by decide) (x:= .int k gX) rfl ?_
   exists bf S (fun tq s S=>?_)
   refine At S (fun tq s S=>spliced_none<|ea S aG (fun x9 s S BK=>fb S (Up.tail Up.head) dw (fun s S=>wpAny_execs_nil<|ec ?_)))
   intro Kz
   refine wpAny_Return_some<|xhR S ?_
   exists ap S hR ?_
   refine gJ (nu rfl S (mT mH) (by rw[Array.size_push,sizeLine_eq];exact xf1 hU fh hG) (by rw[Array.size_push];exact xf0) (fun x8 s S=>?_))
   have S:=St.sub (ag:=(x8,_)::(x9,_)::(aw++aa)) S (.cons_cons _ (.cons_cons _ (.cons _ (.cons _ (List.Sublist.refl _)))))
   refine aT S (fun S=>ret x8 _ _ ((x9,_)::aw) s S ?_)
   unfold dn;rw[xdy];simp only[List.drop_one]
   exact cZ.tail ((cy.mono fun zz h=>mT h).push mH)
  have:(x !=q "ANY")=true:=by unfold bne;rw[hx];rfl
  rw[this] at c1;cases c1
end
section
noncomputable def gq(cs:List (Str×CA))(us:List (Str×List Str))(a b:Str):Option Int:=if (a==b)=true then some 0 else ((dn cs us a).find? (·.1==b)).map (·.2)
noncomputable def OD(o:Option Int)(t:Tok):Value:=match o with|some k=> .int k t|none=> .none
theorem RE{α:Type}{p:α→Bool}{l:List α}{i:Nat}{a:α}(h:l[i]?=some a)(hn:(l.take i).find? p=none):(l.take (i+1)).find? p=if p a=true then some a else none:=by
 rw[List.take_add_one,h,List.find?_append,hn]
 cases q:p a<;>simp[q]
theorem xcM{α:Type}{p:α→Bool}{l:List α}{i:Nat}{a:α}(h:(l.take i).find? p=some a):l.find? p=some a:=by
 conv=>lhs;rw[←List.take_append_drop i l]
 rw[List.find?_append,h];rfl
theorem GG{t dc du:Addr}{cs:List (Str×CA)}{a b:Str}{bp bO:Tok}(C:Cx gx aH A ae aE az L (dp+6) (un+18))(S:St ai ae L s l aa)(T:Tab af gx.gw W aa t dc du cs us)(hx:(a==q "ANY")=false)(ret:∀tq s',St ai ae L s' l aa→R (.ok (.ret (OD (gq cs us a b) tq))) s'):
  codeAny (model af gx.gw) A (.call (.ref 399) ⟨[.ref t,.str a bp,.str b bO],[]⟩) R s:=by
 refine xch C S (fun g L1 s C S=>bo ?_)
 intro Kz Ez
 refine ec ?_
 intro Kz
 refine br ?_
 exists ap S (am ah)<|ap S ah<|eq_str<|bV (fun c0=>?_) (fun c0=>?_)
 ·refine ec ?_
  intro Kz
  refine wpAny_Return_some<|bf S (fun tq s S=>aT S (fun S=>?_))
  have hd:gq cs us a b=some 0:=by unfold gq;rw[if_pos c0]
  have:=ret tq s S;rw[hd] at this;exact this
 refine wpAny_execs_nil<|ec ?_
 intro Kz
 refine cD<|methodCall_KW ?_
 exists ap S (aB ah) ?_
 refine fw C S (Jp _) T.i.inst (bj (bj (dP))) ?_
 exists aU S (am ah) ?_
 refine bh C S<|Pt C S T hx (fun r vs n aw s S cy=>?_)
 have hd:gq cs us a b=((dn cs us a).find? (·.1==b)).map (·.2):=by unfold gq;rw[if_neg (cO c0)]
 refine xhH C S (fun i l' ag=>l'.lookup (q "super_name")=some (.str b bO)∧ag=(r,listOf vs n)::(aw++aa)∧((dn cs us a).take i).find? (·.1==b)=none)
  vs.size ⟨ah,rfl,rfl⟩ (fun i l' ag hJ=>by obtain⟨_,rfl,_⟩:=hJ;exact⟨_,_,mH,Nat.le_refl _⟩) (fun i v pv pn s l' ag it hJ j4 iY S=>?_) (fun i pv pn s l' ag hJ j4 iY S=>?_)
 ·refine aO hJ fun hB z1 hf=>?_
  clear hJ
  subst z1
  have dv:=S.uniq (mT j4) (mT mH)
  injection dv with _ _ dv _;injection dv with dv _;subst dv
  refine f9 (cy.get (i:=i) (by simpa using iY)) fun t1 x1 k jK gX kA z1=>aO z1 fun z2 dC dR=>?_
  clear z1
  subst z2
  refine uw C S (bc (List.mem_append_left _ dR)) (fun s S=>ec ?_)
  intro Kz
  refine br ?_
  exists ap S (am ah)<|ap S (aB hB)<|eq_str<|bV (fun c1=>?_) (fun c1=>?_)
  ·refine ec ?_
   intro Kz
   refine wpAny_Return_some ?_
   exists ap S ah ?_
   have S:=S.sub (.cons _ (.cons _ (List.sublist_append_right aw aa)))
   refine aT S (fun S=>?_)
   have hz:=RE dC hf;rw[if_pos c1] at hz
   rw[xcM hz] at hd
   have:=ret gX s S;rw[hd] at this;exact this
  ·refine wpAny_execs_nil<|wpAny_execs_nil<|aN (bW S (aB hB) rfl ?_)
   rw[RE dC hf,if_neg (cO c1)]
 refine aO hJ fun hB z1 hf=>?_
 clear hJ
 subst z1
 have dv:=S.uniq j4 mH
 injection dv with _ _ dv _;injection dv with dv _;subst dv
 have fh:=cy.len;rw[Array.length_toList] at fh
 have n0:pv.size≤i:=by
  rcases Nat.lt_or_ge i pv.size with z|z
  ·rw[Array.getElem?_eq_getElem z] at iY;cases iY
  ·exact z
 rw[List.take_of_length_le (by exact ON fh n0)] at hf
 rw[hf] at hd
 refine ec ?_
 intro Kz
 refine wpAny_Return_some<|wpAny_Constant_none ?_
 have S:=S.sub (.cons _ (List.sublist_append_right aw aa))
 refine aT S (fun S=>?_)
 have:=ret 0 s S;rw[hd] at this;exact this
end
theorem vN{K:Type}[DecidableEq K]{knd:KeyKind af w K}{aD:List (K×Value)}(h:o.IsDictOf knd aD):∃es n,o.data= .dict es n:=by
 refine aP h fun es ep z1=>aO z1 fun z2 hd z3=>?_
 clear h z1
 exact⟨_,_,hd⟩
theorem Sys.nd{af w W aa i di gl F b cs us}(S:St ai ae L s l aa)(Y:Sys af w W aa i di gl F b cs us){r:Addr}(hm:(r,o)∈aa)(hZ:∀es n,o.data≠.dict es n):r∉di::F:=fun hr=>by
 refine cB Y.ex fun od al lim s4 z1=>bB z1 fun m hA z2 T=>?_
 clear z1
 rcases List.mem_cons.mp hr with rfl|hr
 ·have:=S.uniq hm m
  subst this
  refine aP hA fun es n z1=>ay z1 fun z2 z3=>?_
  clear hA z1
  subst z2
  exact hZ _ _ rfl
 ·cases T with
  |u=>cases hr
  |i _ T _ _ _=>
   rcases List.mem_cons.mp hr with rfl|hr
   ·refine aP T.c.ex fun o' aD z1=>aO z1 fun gB hd z2=>?_
    clear z1
    refine aP (vN hd) fun es n e=>?_
    exact hZ _ _ (by rw[S.uniq hm gB];exact e)
   ·rcases List.mem_cons.mp hr with rfl|hr
    ·refine aP T.u.ex fun o' aD z1=>aO z1 fun gB hd z2=>?_
     clear z1
     refine aP (vN hd) fun es n e=>?_
     exact hZ _ _ (by rw[S.uniq hm gB];exact e)
    ·cases hr
def cS(W:List Addr)(aa:List (Addr×Obj))(v:Addr)(x:Str):Prop:=∃tk it tx k,cC W aa v 487 (cN (q "character") tk (.ref it) .none)∧Fz W aa it (listOf #[.str x tx] k)
theorem cS.step{W W' F aa ag v x}(h:cS W aa v x)(k:Kp F aa ag)(hF:∀a∈F,a∈W)(g:Wx W W' aa):cS W' ag v x:=by
 obtain⟨tk,it,tx,n,a,b⟩:=h
 exact⟨tk,it,tx,n,a.step k hF g,b.step k hF g⟩
theorem cS.mem{W aa ag v x}(h:cS W aa v x)(k:∀p∈aa,p∈ag):cS W ag v x:=by
 obtain⟨tk,it,tx,n,a,b⟩:=h
 exact⟨tk,it,tx,n,a.mono (.fq k),b.mono (.fq k)⟩
theorem cS.up{W aa v x}{p:Addr×Obj}(h:cS W aa v x):cS W (p::aa) v x:=h.mem fun zz m=> .tail _ m
theorem cS.app{W aa aw v x}(h:cS W aa v x):cS W (aw++aa) v x:=h.mem fun zz m=>mA m
def lv(aa:List (Addr×Obj))(v:Addr)(bit:Bool):Prop:=∃tk it ti k,Inst aa v 487 (cN (q "logical") tk (.ref it) .none)∧(it,listOf #[.int (if bit=true then 1 else 0) ti] k)∈aa
section
theorem Sys.on{af w W i di gl F b cs us}(S:St ai ae L s l aa)(Y:Sys af w W aa i di gl F b cs us):Sys af w W aa i di gl F b cs us:=Y
theorem cS.on{W v x}(S:St ai ae L s l aa)(Y:cS W aa v x):cS W aa v x:=Y
theorem cC.on{W x K al}(S:St ai ae L s l aa)(Y:cC W aa x K al):cC W aa x K al:=Y
theorem fy.on{W x ys}(S:St ai ae L s l aa)(Y:fy W aa x ys):fy W aa x ys:=Y
theorem Fz.on{W a o}(S:St ai ae L s l aa)(Y:Fz W aa a o):Fz W aa a o:=Y
end
theorem Sys.Hl{af w W aa i di gl dc du b cs us}(Y:Sys af w W aa i di gl [dc,du] b cs us):dc∈W∧du∈W∧dc≠du:=by
 refine cB Y.ex fun z1 z2 z3 z4 z5=>bB z5 fun z6 z7 z8 T=>?_
 clear z5
 cases T with
 |i _ _ h1 h2 h3=>exact⟨h1,h2,h3⟩
structure ee(af:Program)(w:World)(W:List Addr)(aa:List (Addr×Obj))(F:List Addr)(i di gl:Addr)(W':List Addr)(ag:List (Addr×Obj))(F':List Addr)(b:Bool)(cs:List (Str×CA))(us:List (Str×List Str)):Prop where
 g:Wx W W' aa
 k:Kp (di::F) aa ag
 y:Sys af w W' ag i di gl F' b cs us
 o:∀p∈aa,∃o,(p.1,o)∈ag
 f:∀a∈F',a∈F∨∀p∈aa,p.1≠a
theorem ee.pre{af w W vW aa F i di gl W' ag F' b cs us}(P:ee af w W aa F i di gl W' ag F' b cs us)(h:∀p∈vW,p∈aa):ee af w W vW F i di gl W' ag F' b cs us:=
 ⟨⟨P.g.1,fun a m=>(P.g.2 a m).imp id fun x p hp=>x p (h p hp)⟩,fun p hp=>P.k p (h p hp),P.y,fun p hp=>P.o p (h p hp),fun a m=>(P.f a m).imp id fun x p hp=>x p (h p hp)⟩
theorem ee.mem{af w W aa F i di gl W' ag bD F' b cs us}(P:ee af w W aa F i di gl W' ag F' b cs us)(h:∀p∈ag,p∈bD):ee af w W aa F i di gl W' bD F' b cs us:=
 ⟨P.g,fun p hp n=>h _ (P.k p hp n),P.y.mem h,fun p hp=>let ⟨o,ho⟩:=P.o p hp;⟨o,h _ ho⟩,P.f⟩
theorem ee.up{af w W aa F i di gl W' ag F' b cs us}{p:Addr×Obj}(P:ee af w W aa F i di gl W' ag F' b cs us):ee af w W aa F i di gl W' (p::ag) F' b cs us:=P.mem fun zz h=> .tail _ h
theorem ee.app{af w W aa F i di gl W' ag aw F' b cs us}(P:ee af w W aa F i di gl W' ag F' b cs us):ee af w W aa F i di gl W' (aw++ag) F' b cs us:=P.mem fun zz h=>mA h
theorem ee.trans{af w W aa F i di gl W' ag F' b cs us mw bD uP b' gR eX}(P:ee af w W aa F i di gl W' ag F' b cs us)(P':ee af w W' ag F' i di gl mw bD uP b' gR eX):ee af w W aa F i di gl mw bD uP b' gR eX:=
 ⟨P.g.trans P'.g P.o,fun p hp n=>P'.k p (P.k p hp n) fun m=>by
   rcases List.mem_cons.mp m with e|m
   ·exact n (by rw[e];exact .head _)
   ·rcases P.f _ m with x|x
    ·exact n (.tail _ x)
    ·exact x p hp rfl,
  P'.y,fun p hp=>let ⟨o,ho⟩:=P.o p hp;P'.o (p.1,o) ho,fun a m=>by
   rcases P'.f a m with x|x
   ·exact P.f a x
   ·exact .inr fun p hp e=>let ⟨o,ho⟩:=P.o p hp;x (p.1,o) ho e⟩
section
theorem uF{i di gl:Addr}{F:List Addr}{b:Bool}{cs us}(C:Cx gx aH A ae aE az L (dp+5) (un+15))(S:St ai ae L s l aa)(Y:Sys af gx.gw W aa i di gl F b cs us)(ret:∀W' ag st mt t dc du s',St ai ae L s' l ag→ee af gx.gw W aa F i di gl W' ag [dc,du] b cs us→cC W' ag st 878 [(q "older",.none),(q "methods",.ref mt),(q "classes",.ref t)]→Tab af gx.gw W' ag t dc du cs us→R (.ok (.ret (.ref st))) s'):
  codeAny (model af gx.gw) A (.call (.ref 889) ⟨[.ref i],[]⟩) R s:=
 xi9 C S Y fun W' ag st mt t dc du s' S' g k y a T o f=>ret W' ag st mt t dc du s' S' ⟨g,k,y,o,f⟩ a T
theorem Pd{o:Option Int}{t:Tok}(h:Q (.bool o.isSome) s):wpAny M A (compareOp .IsNot (OD o t) .none) Q E s:=by
 refine isnot_none_gen ?_
 cases o<;>exact h
theorem lv.mk{fx mD jt:Addr}{nK:Obj}{bit:Bool}{kP kQ:Tok}{fn:Nat}(S:St ai ae L s l ((fx,instObj 487 mD)::(mD,nK)::(jt,listOf #[.int (if bit=true then 1 else 0) kP] fn)::aa))(hA:bG nK (cN (q "logical") kQ (.ref jt) .none)):
  lv ((fx,instObj 487 mD)::(mD,nK)::(jt,listOf #[.int (if bit=true then 1 else 0) kP] fn)::aa) fx bit:=⟨kQ,jt,kP,fn,⟨_,_,mH,mT mH,hA⟩,mT (mT mH)⟩
end
section
theorem xio{sv cv:Addr}{Pp QI:Addr}{Hb:Value}{VM jR:Tok}{β:Type}{d:Addr}{P:Str→β→Value→Prop}{cs:List (Str×β)}{b:β}{n m:Addr}{k2:Str}{t2:Tok}{uV:Value}{ns:Array Value}{mk:Nat}{Pq Hc:Array Value}{sik cik:Nat}{xs ys zs:List Str}(C:Cx gx aH A ae aE az L (dp+5) (un+15))(S:St ai ae L s l aa)(Is:Inst aa sv 487 (cN (q "character") VM (.ref Pp) (.ref d)))(kX:cK af gx.gw aa (q "dim") (.ref d))(Ds:Dc af gx.gw aa d P cs)(hbs:aM cs (q "names")=some b)(hPs:∀y,P (q "names") b y→y= .ref n)(Wm:Inst aa n 487 (cN k2 t2 (.ref m) uV))(dO:(m,listOf ns mk)∈aa)(j2:(Pp,listOf Pq sik)∈aa)(xdv:Pq.size≤sizeLine)(xdu:StrsAre Pq.toList xs)(Sm:ns.size≤sizeLine)(So:StrsAre ns.toList ys)(xdC:xs.length=ys.length)(og:∀p∈ys.zip xs,(p.1==q "")=false)(Ic:Inst aa cv 487 (cN (q "character") jR (.ref QI) Hb))(vC:cK af gx.gw aa (q "dim") Hb)(mQ:cK af gx.gw aa (q "names") Hb)(hic:(QI,listOf Hc cik)∈aa)(Im:Hc.size≤sizeLine)(Il:StrsAre Hc.toList zs)(qg:zs.any (·==q "VIRTUAL")=false)(ret:∀t a b' av ak bv bk aw s',St ai ae L s' l ((t,bK #[.ref b',.ref a,.bool false] 0)::(a,listOf av ak)::(b',listOf bv bk)::(aw++aa))→StrsAre av.toList zs→db aw bv.toList (ys.zip xs)→R (.ok (.ret (.ref t))) s'):
  codeAny (model af gx.gw) A (.call (.ref 1061) ⟨[.none,.ref sv,.ref cv],[]⟩) R s:=by
 refine xbz C S (fun g L1 s C S=>bo ?_)
 intro Kz Ez
 refine ec ?_
 intro Kz
 refine aX ?_
 exists List_ ?_
 refine cF S aG (fun x1 s S eA=>aW S (fun s S=>ec ?_))
 intro Kz
 refine aX ?_
 exists List_ ?_
 refine cF S aG (fun x2 s S dE=>aW S (fun s S=>ec ?_))
 intro Kz
 refine cD<|aY C S (Bh _) ?_
 exists aU S (bR ah) ?_
 refine bh C S<|xin C S (fun P3 V3 nP3 xcG s S lP3 iP3=>dg C.hh S mH (fun Ix0 oi0 s S HY W0=>?_))
 have zP3:V3.size=0:=by have:=iP3.len;simpa using this
 refine Gp W0 S HY (fun i l' ag=>(l'.lookup (q "pairs")=some (.ref x1)∧l'.lookup (q "supers")=some (.ref x2)∧l'.lookup (q "representation")=some .none∧l'.lookup (q "slots")=some (.ref sv)∧l'.lookup (q "contains")=some (.ref cv))∧ag=((P3,listOf V3 nP3)::(xcG++((x2,listOf #[] 0)::(x1,listOf #[] 0)::aa)):List (Addr×Obj))) ⟨⟨(am ah),ah,(bR ah),(aV ah),(aB ah)⟩,rfl⟩ (fun zz zz zz hJ=>by obtain⟨_,rfl⟩:=hJ;exact mH) (fun i vv s l' ag it hi hv hJ S=>absurd hi (by exact OO zP3)) (fun s l' ag hJ S=>?_)
 obtain⟨⟨hP,hS,hR,lG,hC⟩,rfl⟩:=hJ
 replace S:=S.sub (.cons _ (List.sublist_append_right _ _))
 refine ec ?_
 intro Kz
 refine cD<|aY C S (Bh _) ?_
 exists aU S lG ?_
 refine bh C S<|xim C S Is.up.up kX.up.up Ds.up.up hbs hPs Wm.up.up (bc dO) (bc j2) xdv xdu Sm So xdC (fun P4 V4 Ta RA s S lP4 I0=>dg C.hh S mH (fun Wn oi1 s S jW W1=>?_))
 refine dF W1 S jW (fun i l' ag=>(l'.lookup (q "pairs")=some (.ref x1)∧l'.lookup (q "supers")=some (.ref x2)∧l'.lookup (q "representation")=some .none∧l'.lookup (q "slots")=some (.ref sv)∧l'.lookup (q "contains")=some (.ref cv))∧∃vs n aw,ag=((P4,listOf V4 Ta)::(RA++((x2,listOf #[] 0)::(x1,listOf vs n)::(aw++aa))):List (Addr×Obj))∧db aw vs.toList ((ys.zip xs).take i)) ⟨⟨hP,hS,hR,lG,hC⟩,#[],_,[],rfl,.nil⟩ (fun zz zz zz hJ=>by obtain⟨_,_,_,_,rfl,_⟩:=hJ;exact mH) (fun i vv s l' ag it hi hv hJ S=>?_) (fun s l' ag hJ S=>?_)
 ·intro Kz Ez
  refine ay hJ fun z1 z2=>eJ z1 fun hP hS hR lG hC=>cQ z2 fun vs n aw z3=>ay z3 fun z4 bq=>?_
  clear hJ z1 z2 z3
  refine xS1 z4 S fun S=>?_
  refine f9 (I0.get (i:=i) (by simpa using hv)) fun tA xA yA jK gX kA z1=>aO z1 fun z2 dC dR=>?_
  clear z1
  subst z2
  exists dG S ?_
  intro lz dz S
  refine uw C S (bc (List.mem_append_left _ dR)) (fun s S=>?_)
  have dQ:=bX (bq.len)
  have eE:=List.length_take_le i (ys.zip xs)
  have j8:(ys.zip xs).length=_:=List.length_zip
  have df:=bX (cG So)
  have kW:=bX (I0.len)
  have dw:vs.size≤sizeLine:=by exact xgb Sm hi dQ eE j8 df kW
  have ol:(xA==q "")=false:=og _ (List.mem_of_getElem? dC)
  refine ec ?_
  intro Kz
  refine wpAny_Expr<|methodCall_KW ?_
  exists ap S (aB hP) ?_
  refine ft S (bc (mA (mT mH)))<|IfExp_<|wpAny_isTrue_Compare1 ?_
  exists ap S (am ah)<|bZ S (fun ej s S=>?_)
  refine b7 ol ?_
  exists Tuple_<|bQ S (am ah)<|aU S ah ?_
  refine ea S aG (fun x6 s S lx6=>fb S (Up.tail (Up.tail (Up.tail (Up.app (Up.tail Up.head))))) dw (fun s S=>wpAny_execs_nil ?_))
  replace S:=S.perm (ag:=(it::(P4,listOf V4 Ta)::(RA++((x2,listOf #[] 0)::(x1,listOf (vs.push (.ref x6)) (n+1))::((x6,_)::(aw++aa)))))) (by
    refine(List.Perm.swap _ _ _).trans (.cons _ ((List.Perm.swap _ _ _).trans (.cons _<|(List.perm_middle.symm).trans (List.Perm.append_left _ ?_))))
    exact(List.Perm.swap _ _ _).trans (.cons _ (.swap _ _ _)))
  refine aN (aR S (iL (aB hP) (aB hS) (aB hR) (aB lG) (aB hC)) (eK (c:=(x6,_)::aw) (bC rfl ?_)))
  rw[take_snoc dC];exact bq.up.push mH
 refine ay hJ fun z1 z2=>eJ z1 fun hP hS hR lG hC=>cQ z2 fun ps pn ud z3=>ay z3 fun z4 bq=>?_
 clear hJ z1 z2 z3
 refine Wq z4 S fun S=>?_
 rw[List.take_of_length_le (by have:=I0.len;rw[Array.length_toList] at this;exact fK this)] at bq
 replace S:=S.sub (.cons _ (List.sublist_append_right _ _))
 refine ec ?_
 intro Kz
 refine cD<|aY C S (Bh _) ?_
 exists aU S hC ?_
 refine bh C S<|Vy C S Ic.app.up.up vC.app.up.up mQ.app.up.up (bc (mA hic)) Im Il (fun P5 vP5 nP5 xcH s S lP5 I3=>dg C.hh S mH (fun Wo OC s S eP W2=>?_))
 refine dF W2 S eP (fun i l' ag=>(l'.lookup (q "pairs")=some (.ref x1)∧l'.lookup (q "supers")=some (.ref x2)∧l'.lookup (q "representation")=some .none∧l'.lookup (q "slots")=some (.ref sv)∧l'.lookup (q "contains")=some (.ref cv))∧∃vs n,ag=((P5,listOf vP5 nP5)::(xcH++((x2,listOf vs n)::(x1,listOf ps pn)::(ud++aa))):List (Addr×Obj))∧StrsAre vs.toList (zs.take i)) ⟨⟨hP,hS,hR,lG,hC⟩,#[],_,rfl,.nil⟩ (fun zz zz zz hJ=>by obtain⟨_,_,_,rfl,_⟩:=hJ;exact mH) (fun i vv s l' ag it hi hv hJ S=>?_) (fun s l' ag hJ S=>?_)
 ·intro Kz Ez
  refine ay hJ fun z1 z2=>eJ z1 fun hP hS hR lG hC=>aP z2 fun vs n z3=>ay z3 fun z4 Ss=>?_
  clear hJ z1 z2 z3
  refine xS1 z4 S fun S=>?_
  refine f9 (I3.get (i:=i) (by simpa using hv)) fun tA xA yA jK gX kA z1=>aO z1 fun z2 dC dR=>?_
  clear z1
  subst z2
  exists dG S ?_
  intro lz dz S
  refine uw C S (bc (List.mem_append_left _ dR)) (fun s S=>?_)
  have dQ:=bX (cG Ss)
  have eE:=List.length_take_le i zs
  have fY:=bX (cG Il)
  have kW:=bX (I3.len)
  rw[List.length_map] at kW
  have dw:vs.size≤sizeLine:=by exact xga Im hi dQ eE fY kW
  have j7:zs[i]?=some yA:=by rw[List.getElem?_map] at dC;cases e:zs[i]?<;>simp[e] at dC ⊢;exact dC.2
  refine ec ?_
  intro Kz
  refine wpAny_Expr<|methodCall_KW ?_
  exists ap S (aB hS) ?_
  refine ft S (bc (mA mH)) ?_
  exists ap S ah ?_
  refine fb S (Up.tail (Up.tail (Up.app Up.head))) dw (fun s S=>wpAny_execs_nil<|aN (aR S (iL (aB hP) (aB hS) (aB hR) (aB lG) (aB hC)) (aN (bC rfl ?_))))
  rw[take_snoc j7];exact pf Ss
 refine ay hJ fun z1 z2=>eJ z1 fun hP hS hR lG hC=>aP z2 fun ss sn z3=>ay z3 fun z4 Bu=>?_
 clear hJ z1 z2 z3
 refine Wq z4 S fun S=>?_
 have qk:=I3.len
 rw[Array.length_toList,List.length_map] at qk
 rw[List.take_of_length_le (by exact fK qk)] at Bu
 have cV:=bX (cG Bu)
 have fY:=bX (cG Il)
 have dw:ss.size≤sizeLine:=by exact xf9 Im cV fY
 replace S:=S.sub (.cons _ (List.sublist_append_right _ _))
 refine ec ?_
 intro Kz
 refine aX<|wpAny_Compare1 ?_
 exists bE S (fun ed s S=>ap S hS<|in_list_strs (St.lst S mH) Bu ?_)
 rw[qg]
 refine aW S (fun s S=>ec ?_)
 intro Kz
 refine wpAny_Return_some ?_
 exists Tuple_<|bQ S (am hP) ?_
 refine spliced_more<|Au (uX (by kernel_rfl)) (lb (by kernel_rfl)) (namesOk (by kernel_rfl)) ?_ (gz:=rfl)
 exists ap S (am hS) ?_
 refine dg C.hh S mH (fun Ix oi s S hO W=>?_)
 refine AL (b:=L1) (e:=Ix) (k:=(fun i ys ag=>ag=((x2,listOf ss sn)::(x1,listOf ps pn)::(ud++aa):List (Addr×Obj))∧StrsAre ys (zs.take i))) (pt rfl W S hO dw ⟨rfl,.nil⟩ (fun zz zz zz hJ=>by obtain⟨rfl,_⟩:=hJ;exact mH) (fun i v s lc ys k D Cn oL ag it EE hi hv hJ hL jx lI S=>?_) (fun D ys k ag s hJ S=>?_))
 ·obtain⟨rfl,dh⟩:=hJ
  refine aP (eW Bu (i:=i) (by simpa using hv)) fun x tx z1=>ay z1 fun z2 hx=>?_
  clear z1
  subst z2
  refine mf S rfl (fun s S=>?_) (hk:=rfl) (hl:=(by kernel_rfl))
  refine wpAny_tests_one<|wpAny_isTrue_Compare1<|lj S rfl ah ?_ (hk:=rfl) (hl:=(by kernel_rfl))
  exists bE S (fun mj s S=>km<|wpAny_truthy_bool ?_)
  have hxv:(x==q "VIRTUAL")=false:=by have:=List.any_eq_false.mp qg x (List.mem_of_getElem? hx);simpa using this
  refine oB (Yz hxv)<|lj S rfl ah ?_ (hk:=rfl) (hl:=(by kernel_rfl))
  exact eK (bW S hL rfl (by rw[take_snoc hx];exact mh dh (.cons _ _ .nil)))
 obtain⟨rfl,dh⟩:=hJ
 rw[List.take_of_length_le (by exact fK cV)] at dh
 exists aU S ah ?_
 refine ea S aG (fun t9 s S l9=>aT S (fun S=>?_))
 exact ret t9 D x1 ys.toArray k ps pn ((x2,_)::ud) s (S.perm (.cons _ (.cons _ (.swap _ _ _)))) (by simpa using dh) bq.up
end
def mu(o:Option Str)(v:Value):Prop:=match o with|none=>v= .none|some x=>∃t,v= .str x t
def Qc(k:Int)(v:Value):Prop:=∃t,v= .int k t
noncomputable def kO(aQ:List (Option Str))(nm:Str)(st:List Int×List (Str×Int))(i:Nat):Option (List Int×List (Str×Int)):=
 if aQ[i]?=some (some nm)∧st.1[i]?=some 0 then (if (aM st.2 nm).isSome then none else some (st.1.set i 2,bT st.2 nm (i:Int))) else some st
noncomputable def jS(aQ:List (Option Str))(st:List Int×List (Str×Int))(nm:Str):Option (List Int×List (Str×Int)):=
 if (nm !=q "...")=true then (List.range aQ.length).foldlM (kO aQ nm) st else some st
abbrev Qd:=fun(_:Str) (k:Int) (v:Value)=>Qc k v
theorem xcC{aQ nm st i dA}(h:kO aQ nm st i=some dA):dA.1.length=st.1.length:=by
 unfold kO at h
 split at h
 ·split at h
  ·cases h
  ·cases h;simp
 ·cases h;rfl
theorem RI{α σ:Type}{f:σ→α→Option σ}{I:σ→Prop}(hs:∀st a dA,I st→f st a=some dA→I dA){l:List α}{z r:σ}(hz:I z)(h:l.foldlM f z=some r):I r:=by
 induction l generalizing z with
 |nil=>cases h;exact hz
 |cons a l ih=>
  rw[List.foldlM_cons] at h
  cases e:f z a with
  |none=>rw[e] at h;cases h
  |some z'=>rw[e] at h;exact ih (hs _ _ _ hz e) h
theorem Rw{aQ st nm dA}(h:jS aQ st nm=some dA):dA.1.length=st.1.length:=by
 unfold jS at h
 split at h
 ·exact RI (I:=fun s=>s.1.length=st.1.length) (fun s a s' hs e=>(xcC e).trans hs) rfl h
 ·cases h;rfl
theorem Ar{β:Type}(cs:List (Str×β))(x:Str)(v:β):(bT cs x v).length≤cs.length+1:=by
 unfold bT
 split<;>simp
theorem xhX{n i:Nat}(h:i<n):(List.range n)[i]?=some i:=by simp[h]
theorem xcR{α σ:Type}{f:σ→α→Option σ}{l:List α}:∀{z r:σ},l.foldlM f z=some r→∀i:Nat,∃st,(l.take i).foldlM f z=some st∧(l.drop i).foldlM f st=some r:=by
 induction l with
 |nil=>exact fun{z r} h i=>⟨z,by rw[List.take_nil];rfl,by rw[List.drop_nil];exact h⟩
 |cons a l ih=>
  intro z r h i
  cases i with
  |zero=>exact⟨z,rfl,h⟩
  |succ i=>
   rw[List.foldlM_cons] at h
   cases e:f z a with
   |none=>rw[e] at h;cases h
   |some z'=>
    rw[e] at h
    refine aS (ih (z:=z') h i) fun st z1=>ay z1 fun hs hd=>?_
    clear z1
    exact iu (a:=st) (bC (by rw[List.take_succ_cons,List.foldlM_cons,e];exact hs) hd)
theorem Hx{α σ:Type}{f:σ→α→Option σ}{μ:σ→Nat}(hs:∀st a dA,f st a=some dA→μ st≤μ dA):∀{l:List α} {z r:σ},l.foldlM f z=some r→μ z≤μ r
 |[],z,r,h=>by cases h;exact Nat.le_refl _
 |a::l,z,r,h=>by
  rw[List.foldlM_cons] at h
  cases e:f z a with
  |none=>rw[e] at h;cases h
  |some z'=>rw[e] at h;exact Nat.le_trans (hs _ _ _ e) (Hx hs h)
theorem RJ{α σ:Type}{f:σ→α→Option σ}{μ:σ→Nat}(hm:∀st a dA,f st a=some dA→μ st≤μ dA){l:List α}{z r st:σ}(h:l.foldlM f z=some r){i:Nat}{a:α}(ha:l[i]?=some a)(qj:(l.take i).foldlM f z=some st):
  ∃dA,f st a=some dA∧(l.take (i+1)).foldlM f z=some dA∧μ dA≤μ r∧μ st≤μ dA:=by
 refine aS (xcR h (i+1)) fun dA z1=>ay z1 fun h1 h2=>?_
 clear z1
 have e:=xcQ ha qj
 rw[h1] at e
 exact iu (a:=dA) (bW e.symm h1 (Hx hm h2) (hm _ _ _ e.symm))
theorem UQ{β:Type}(cs:List (Str×β))(x:Str)(v:β):cs.length≤(bT cs x v).length:=by
 unfold bT
 split<;>simp
theorem Ry{aQ nm st i dA}(h:kO aQ nm st i=some dA):st.2.length≤dA.2.length:=by
 unfold kO at h
 split at h
 ·split at h
  ·cases h
  ·cases h;exact UQ _ _ _
 ·cases h;exact Nat.le_refl _
theorem Rx{aQ st nm dA}(h:jS aQ st nm=some dA):st.2.length≤dA.2.length:=by
 unfold jS at h
 split at h
 ·exact Hx (fun zz zz zz e=>Ry e) h
 ·cases h;exact Nat.le_refl _
set_option tactic.hygienic true in
theorem xcD {aQ nm st i dA} (h1:aQ[i]?=some (some nm)) (h2:st.1[i]?=some 0) (h:kO aQ nm st i=some dA):(aM st.2 nm).isSome=false∧dA=(st.1.set i 2,bT st.2 nm (i:Int)):=by
 unfold kO at h
 rw[if_pos ⟨h1,h2⟩] at h
 split at h
 ·cases h
 ·rename_i c;cases h;exact⟨Bool.eq_false_iff.mpr c,rfl⟩
theorem Ht{aQ nm st i dA}(hn:¬(aQ[i]?=some (some nm)∧st.1[i]?=some 0))(h:kO aQ nm st i=some dA):dA=st:=by
 unfold kO at h
 rw[if_neg hn] at h
 cases h;rfl
structure iO(af:Program)(w:World)(uv:Array Value)(o:Obj)(st:List Int×List (Str×Int)):Prop where
 u:cR Qc uv.toList st.1
 ex:∃aD,o.IsDictOf (PySem.strKind af w) aD∧Al Qd aD st.2
noncomputable abbrev oH(pc uc tc fc:Addr):List (Str×Value):=[(q "places",.ref pc),(q "used",.ref uc),(q "tags",.ref tc),(q "formals",.ref fc)]
theorem cR.Vq{α:Type}{P:α→Value→Prop}{vs:Array Value}{as:List α}(h:cR P vs.toList as){a:α}(p:P a v)(i:Nat):cR P (vs.setIfInBounds i v).toList (as.set i a):=by
 rw[Array.toList_setIfInBounds];exact h.set p i
section
theorem xeI{tc:Addr}{tv:Array Value}{tk:Nat}(C:Cx gx aH A ae aE az L (dp+2) (un+6))(S:St ai ae L s l aa)(fJ:(tc,listOf tv tk)∈aa)(hz:tv.size≤sizeLine)(ret:∀cu d7 x5 x4 x dx od s',St ai ae L s' l ((d7,emptyDict)::(x5,listOf (List.replicate tv.size (.int 0 cu)).toArray 0)::(x4,listOf #[.int 0 cu] 0)::(x,instObj 252 dx)::(dx,od)::aa)→bG od [(q "places",.ref d7),(q "used",.ref x5),(q "tags",.ref tc),(q "formals",v0)]→(∀p∈aa,p.1<dx)→dx<x→(d7==sysModules)=false→Q (.ref x) s'):
  wpAny (model af gx.gw) A (call (.ref 252) [v0,.ref tc]) Q E s:=by
 refine kw C S (Ra _) (fun A x dx s C S l1 l2=>xbW C S (fun g L1 s C S=>bo ?_))
 intro Kz Ez
 refine ec ?_
 intro Kz
 refine bH ?_
 exists ap S (am ah)<|ap S (aB ah) ?_
 refine bN C S (bU (iT _) (GD _) (Ti _) UA) mH bG.nil aG (fun o=>(Up.tail Up.head)) (fun Af s h1 S=>ec ?_)
 intro Kz
 refine bH ?_
 exists ap S ah<|ap S (aB ah) ?_
 refine bN C S (bU (iT _) (GD _) (Tk _) UH) mH h1 aG (fun o=>(Up.tail Up.head)) (fun l4 s h2 S=>ec ?_)
 intro Kz
 refine bH ?_
 exists wpAny_BinOp<|List_ ?_
 refine spliced_more ?_
 exists bf S (fun cu s S=>?_)
 refine cF S aG (fun x4 s S i2=>eU C S (eO _) eL ?_)
 exists aU S ah ?_
 refine eV S (b5 fJ) hz (fun tq s S=>xhK S mH hz (fun x5 s S lx5=>?_))
 exists ap S (aB ah) ?_
 refine bN C S (bU (iT _) (GD _) (Tl _) UJ) (bc mH) h2 aG (fun o=>(Up.tail (Up.tail (Up.tail Up.head)))) (fun kj s h6 S=>ec ?_)
 intro Kz
 refine bH<|i5 C S (fun d7 s S ld7 nd7=>?_)
 exists ap S (aB ah) ?_
 refine bN C S (bU (iT _) (GD _) (Tj _) UE) (b5 mH) h6 aG (fun o=>(Up.tail (Up.tail (Up.tail (Up.tail Up.head))))) (fun TV s h8 S=>wpAny_execs_nil<|aT S (fun S=>?_))
 exact⟨rfl,ret cu d7 x5 x4 x dx _ _ S h8 l1 l2 nd7⟩
theorem xiE{sx pc uc tc fc:Addr}{uv tv fv:Array Value}{uk tk fk:Nat}{aQ:List (Option Str)}{fs:List Str}{cX:List Int×List (Str×Int)}{fin:List Int×List (Str×Int)}(C:Cx gx aH A ae aE az L (dp+1) (un+3))(S:St ai ae L s l ((uc,listOf uv uk)::(pc,o)::aa))(I:Inst aa sx 252 (oH pc uc tc fc))(gC:(pc==sysModules)=false)(fJ:(tc,listOf tv tk)∈aa)(fP:(fc,listOf fv fk)∈aa)(ht:cR mu tv.toList aQ)(hf:StrsAre fv.toList fs)(ey:tv.size≤1000)(M0:iO af gx.gw uv o cX)(j5:cX.1.length=aQ.length)(Sf:fs.foldlM (jS aQ) cX=some fin)(nX:fin.2.length≤1000)(ret:∀AG PM o' s',St ai ae L s' l ((uc,listOf AG PM)::(pc,o')::aa)→iO af gx.gw AG o' fin→R (.ok (.ret .none)) s'):codeAny (model af gx.gw) A (.call (.ref 216) ⟨[.ref sx],[]⟩) R s:=by
 have jC:tv.size≤sizeLine:=by rw[sizeLine_eq];exact oP ey
 refine xbX C S (fun g1 L1 s C S=>bo ?_)
 intro Kz Ez
 refine ec ?_
 intro Kz
 refine cD<|a9 C S ah (HD _) I.up.up (aV ah) bA (fun s S=>dg C.hh S (bc fP) (fun Ix oi s S hO W=>?_))
 refine dF W S hO (fun i l' ag=>l'.lookup (q "self")=some (.ref sx)∧∃uv uk o st,ag=((uc,listOf uv uk)::(pc,o)::aa:List (Addr×Obj))∧iO af gx.gw uv o st∧(fs.take i).foldlM (jS aQ) cX=some st∧st.1.length=aQ.length) ⟨ah,_,_,_,_,rfl,M0,rfl,j5⟩ (fun zz zz zz hJ=>by obtain⟨_,_,_,_,_,rfl,_⟩:=hJ;exact mT (mT fP)) (fun i vv s l' ag it hi hv hJ S=>?_) (fun s l' ag hJ S=>?_)
 ·intro Kz Ez
  refine ay hJ fun hS z1=>cB z1 fun uv uk o st z2=>bB z2 fun z3 hM qj cV=>?_
  clear hJ z1 z2
  refine xS1 z3 S fun S=>?_
  refine aP (eW hf (i:=i) (by simpa using hv)) fun nm tn z1=>ay z1 fun z2 lO=>?_
  clear z1
  subst z2
  refine aS (RJ (μ:=fun s=>s.2.length) (fun zz zz zz e=>Rx e) Sf lO qj) fun dA z1=>bB z1 fun hx Sy hle xjJ=>?_
  clear z1
  have Sv:dA.1.length=aQ.length:=(Rw hx).trans cV
  exists dG S ?_
  intro lz dz S
  refine eu S (fun s S=>ec ?_)
  intro Kz
  refine br ?_
  exists ap S ah<|bE S (fun bp s S=>km<|bV (fun c0=>?_) (fun c0=>?_))
  ·unfold jS at hx;rw[if_pos c0] at hx
   refine ec ?_
   intro Kz
   refine cD<|fS C S (jf _) ja<|spliced_more<|eU C S (eO _) eL<|spliced_more<|a9 C S (am hS) (kR _) I.up.up.up (aB ah) bA (fun s S=>spliced_none<|eV S (b5 fJ) jC (fun tq s S=>spliced_none<|jm S (fun r2 V0 V6 s S Ji=>?_)))
   have eE:=bX (ht.len)
   refine jl C.hh S mH (Int.natCast_nonneg _) (by exact OP ey) (fun Iy oj s S eP W2=>dF W2 S eP (fun j l' ag=>(l'.lookup (q "self")=some (.ref sx)∧l'.lookup (q "name")=some (.str nm tn))∧∃uv uk o s2,ag=((r2,_)::it::(uc,listOf uv uk)::(pc,o)::aa:List (Addr×Obj))∧iO af gx.gw uv o s2∧s2.1.length=st.1.length∧((List.range aQ.length).take j).foldlM (kO aQ nm) st=some s2) ⟨⟨(am hS),ah⟩,_,_,_,_,rfl,hM,rfl,rfl⟩ (fun zz zz zz zz=>trivial) (fun j mq s l' ag i0 hj ez hJ S=>?_) (fun s l' ag hJ S=>?_))
   ·intro Kz Ez
    obtain⟨tp,rfl⟩:=ez
    refine ay hJ fun z1 z2=>ay z1 fun hS hN=>cB z2 fun uv uk o s2 z3=>bB z3 fun z4 hM jD Bq=>?_
    clear hJ z1 z2 z3
    refine xS1 z4 S fun S=>?_
    rw[Int.toNat_natCast] at hj
    have mO:j<aQ.length:=by exact Uq eE hj
    refine aS (RJ (μ:=fun s=>s.2.length) (fun zz zz zz e=>Ry e) hx (xhX mO) Bq) fun s3 z1=>bB z1 fun Bw Br xdA xdB=>?_
    clear z1
    obtain⟨ot,jB⟩:=je (l:=aQ) (i:=j) mO
    refine aS (ht.at jB) fun vt z1=>ay z1 fun qm mI=>?_
    clear z1
    have xdS:=bX (hM.u.len)
    refine aS hM.ex fun aD z1=>ay z1 fun dJ gr=>?_
    clear z1
    exists dG S ?_
    intro lz dz S
    refine eu S (fun s S=>ec ?_)
    intro Kz
    refine wpAny_If<|isTrue_and<|wpAny_isTrue_Compare1<|Subscript_<|a9 C S (am hS) (kR _) I.up.up.up.up.up (aB ah) bA (fun s S=>?_)
    exists ap S ah ?_
    refine cL S (eg fJ) (Int.natCast_nonneg _) (by exact oO ey hj) (x:=vt) (by simpa using qm) ?_
    exists ap S (am hN) ?_
    cases ot with
    |none=>
     obtain rfl:vt= .none:=mI
     refine EqNone.eq_none_str ?_
     exists ei<|cJ ?_
     refine wpAny_execs_nil<|wpAny_execs_nil ?_
     obtain rfl:=Ht (fun h=>by rw[jB] at h;cases h.1) Bw
     refine aN (aR S (bC (am hS) (am hN)) (gJ (bW rfl hM jD Br)))
    |some uG=>
     obtain⟨tt,rfl⟩:=mI
     exists eq_str<|bV (fun c1=>?_) (fun c1=>?_)
     ·have xdJ:aQ[j]?=some (some nm):=by rw[jB,beq_iff_eq.mp c1]
      have mM:j<s2.1.length:=by exact xge cV jD mO
      obtain⟨kq,iX⟩:=je mM
      refine aS (hM.u.at iX) fun vq z1=>ay z1 fun mV z2=>aS z2 fun nr z3=>?_
      clear z1 z2
      subst z3
      refine isTrue_and<|wpAny_isTrue_Compare1<|Subscript_<|a9 C S (am hS) (nN _) I.up.up.up.up.up (am ah) bA (fun s S=>?_)
      exists ap S ah ?_
      refine cL S (b5 mH) (Int.natCast_nonneg _) (by exact oO ey hj) (x:= .int kq nr) (by simpa using mV) ?_
      exists bf S (fun cu s S=>PyProof.Rows.eq_int<|bV (fun c2=>?_) (fun c2=>?_))
      ·obtain rfl:kq=0:=by simpa using c2
       obtain⟨fG,rfl⟩:=xcD xdJ iX Bw
       exists isTrue_and_nil<|er ?_
       refine ec ?_
       intro Kz
       refine br ?_
       exists ap S (am hN) ?_
       refine a9 C S (am hS) (pN _) I.up.up.up.up.up ah bA (fun s S=>Gt S (ch mH) dJ gC (gr.isSome _) (fun s S=>gY fG<|wpAny_execs_nil<|ec ?_))
       intro Kz
       refine wpAny_Assign_Subscript ?_
       exists ap S ah ?_
       refine a9 C S (am hS) (pN _) I.up.up.up.up.up ah bA (fun s S=>?_)
       exists ap S (am hN) ?_
       have mP:=gr.len
       refine jn S (fun zz=>(Up.tail (Up.tail (Up.tail (Up.tail Up.head))))) dJ (by rw[sizeLine_eq];have:=Rx (by unfold jS;rw[if_pos c0];exact hx);exact xgd nX hle xdA xdB mP) (fun o2 s fg S=>?_)
       refine ec ?_
       intro Kz
       refine wpAny_Assign_Subscript ?_
       exists bf S (fun fe s S=>?_)
       refine a9 C S (am hS) (nN _) I.up.up.up.up.up (am ah) bA (fun s S=>?_)
       exists ap S ah ?_
       refine U3 S (Up.tail (Up.tail (Up.tail Up.head))) (Int.natCast_nonneg _) (by exact oO ey hj) (by exact xgc xdS mM) (fun s S=>wpAny_execs_nil<|wpAny_execs_nil<|aN (aR S (bC (am hS) (am hN)) (gJ (bW rfl ⟨?_,_,fg,gr.put ⟨_,rfl⟩⟩ (by simpa using jD) Br))))
       simpa using hM.u.Vq (a:=2) ⟨_,rfl⟩ j
      ·exists cJ ?_
       refine wpAny_execs_nil<|wpAny_execs_nil ?_
       obtain rfl:=Ht (fun h=>by rw[iX] at h;have:=h.2;simp at this;simp[this] at c2) Bw
       refine aN (aR S (bC (am hS) (am hN)) (gJ (bW rfl hM jD Br)))
     ·exists cJ ?_
      refine wpAny_execs_nil<|wpAny_execs_nil ?_
      obtain rfl:=Ht (fun h=>by rw[jB] at h;have:=h.1;simp at this;simp[this] at c1) Bw
      refine aN (aR S (bC (am hS) (am hN)) (gJ (bW rfl hM jD Br)))
   refine ay hJ fun z1 z2=>ay z1 fun hS hN=>cB z2 fun uv uk o s2 z3=>bB z3 fun z4 hM jD Bq=>?_
   clear hJ z1 z2 z3
   refine Wq z4 S fun S=>?_
   rw[Int.toNat_natCast,List.take_of_length_le (by simp;exact fK eE),hx] at Bq
   cases Bq
   refine wpAny_execs_nil<|wpAny_execs_nil<|aN (aR S.drop hS (gJ (bW rfl hM Sy Sv)))
  ·unfold jS at hx;rw[if_neg (cO c0)] at hx;cases hx
   refine wpAny_execs_nil<|wpAny_execs_nil<|aN (aR S (am hS) (gJ (bW rfl hM Sy Sv)))
 refine ay hJ fun hS z1=>cB z1 fun uv uk o st z2=>bB z2 fun z3 hM qj cV=>?_
 clear hJ z1 z2
 refine Wq z3 S fun S=>?_
 have eR:=cG hf;rw[Array.length_toList] at eR
 rw[List.take_of_length_le (by exact fK eR),Sf] at qj;cases qj
 refine wpAny_execs_nil<|aT S (fun S=>?_)
 exact ret _ _ _ s S hM
end
noncomputable def mE(aQ:List (Option Str))(U:List Int)(k:Nat):Bool:=U[k]?==some 0&&(aQ[k]?==some none)
section
theorem xiG{sx pc uc tc:Addr}{uv tv:Array Value}{uk tk:Nat}{aQ:List (Option Str)}{cX:List Int×List (Str×Int)}{fc:Addr}{tn:Tok}(C:Cx gx aH A ae aE az L (dp+1) (un+3))(S:St ai ae L s l ((uc,listOf uv uk)::(pc,o)::aa))(I:Inst aa sx 252 (oH pc uc tc fc))(gC:(pc==sysModules)=false)(fJ:(tc,listOf tv tk)∈aa)(ht:cR mu tv.toList aQ)(ey:tv.size≤1000)(M0:iO af gx.gw uv o cX)(j5:cX.1.length=aQ.length)(vI:∀(j:Nat) (x:Str),aQ[j]?=some (some x)→cX.1[j]?=some 2)(ret:∀s',St ai ae L s' l ((uc,listOf uv uk)::(pc,o)::aa)→R (.ok (.ret .none)) s'):codeAny (model af gx.gw) A (.call (.ref 230) ⟨[.ref sx,.str nm tn],[]⟩) R s:=by
 have jC:tv.size≤sizeLine:=by rw[sizeLine_eq];exact oP ey
 refine xbZ C S (fun g1 L1 s C S=>bo ?_)
 intro Kz Ez
 refine ec ?_
 intro Kz
 refine cD<|fS C S (jf _) ja<|spliced_more<|eU C S (eO _) eL<|spliced_more<|a9 C S (am ah) (kR _) I.up.up (aB ah) bA (fun s S=>spliced_none<|eV S (bc fJ) jC (fun tq s S=>spliced_none<|jm S (fun r1 VZ V5 s S Jh=>?_)))
 have eE:=bX (ht.len)
 have jD:=bX (M0.u.len)
 refine jl C.hh S mH (Int.natCast_nonneg _) (by exact OP ey) (fun Iy oj s S eP W2=>dF W2 S eP (fun j l' ag=>(l'.lookup (q "self")=some (.ref sx)∧l'.lookup (q "name")=some (.str nm tn))∧ag=((r1,_)::(uc,listOf uv uk)::(pc,o)::aa:List (Addr×Obj))) ⟨⟨(am ah),ah⟩,rfl⟩ (fun zz zz zz zz=>trivial) (fun j mq s l' ag i0 hj ez hJ S=>?_) (fun s l' ag hJ S=>?_))
 ·intro Kz Ez
  obtain⟨tp,rfl⟩:=ez
  obtain⟨⟨hS,hN⟩,rfl⟩:=hJ
  rw[Int.toNat_natCast] at hj
  have mO:j<aQ.length:=by exact Uq eE hj
  obtain⟨ot,jB⟩:=je (l:=aQ) (i:=j) mO
  refine aS (ht.at jB) fun vt z1=>ay z1 fun qm mI=>?_
  clear z1
  have mM:j<cX.1.length:=by exact Ur j5 mO
  obtain⟨kq,iX⟩:=je mM
  refine aS (M0.u.at iX) fun vq z1=>ay z1 fun mV z2=>aS z2 fun nr z3=>?_
  clear z1 z2
  subst z3
  exists dG S ?_
  intro lz dz S
  refine eu S (fun s S=>ec ?_)
  intro Kz
  refine aX<|Subscript_<|a9 C S (am hS) (kR _) I.up.up.up.up (aB ah) bA (fun s S=>?_)
  exists ap S ah ?_
  refine cL S (ch fJ) (Int.natCast_nonneg _) (by exact oO ey hj) (x:=vt) (by simpa using qm) ?_
  cases ot with
  |none=>
   obtain rfl:vt= .none:=mI
   refine aW S (fun s S=>ec ?_)
   intro Kz
   refine wpAny_If<|isTrue_and<|wpAny_isTrue_Compare1<|Subscript_<|a9 C S (aB hS) (nN _) I.up.up.up.up (am ah) bA (fun s S=>?_)
   exists ap S (am ah) ?_
   refine cL S (bc mH) (Int.natCast_nonneg _) (by exact oO ey hj) (x:= .int kq nr) (by simpa using mV) ?_
   exists bf S (fun bO s S=>PyProof.Rows.ne_int<|bV (fun c1=>?_) (fun c1=>?_))
   ·refine isTrue_and<|wpAny_isTrue_Compare1 ?_
    exists ap S ah ?_
    refine wpAny_Constant_none<|isnot_none_none ?_
    exists ei<|cJ ?_
    refine wpAny_execs_nil<|wpAny_execs_nil<|aN (aR S (bC (aB hS) (aB hN)) rfl)
   ·exists cJ ?_
    refine wpAny_execs_nil<|wpAny_execs_nil<|aN (aR S (bC (aB hS) (aB hN)) rfl)
  |some uG=>
   obtain⟨tt,rfl⟩:=mI
   have qe:=vI j uG jB
   rw[iX] at qe
   obtain rfl:kq=2:=by simpa using qe
   refine aW S (fun s S=>ec ?_)
   intro Kz
   refine wpAny_If<|isTrue_and<|wpAny_isTrue_Compare1<|Subscript_<|a9 C S (aB hS) (nN _) I.up.up.up.up (am ah) bA (fun s S=>?_)
   exists ap S (am ah) ?_
   refine cL S (bc mH) (Int.natCast_nonneg _) (by exact oO ey hj) (x:= .int 2 nr) (by simpa using mV) ?_
   exists bf S (fun bO s S=>PyProof.Rows.ne_int ?_)
   refine gY (show((2:Int) !=2)=false from rfl) ?_
   exists cJ ?_
   refine wpAny_execs_nil<|wpAny_execs_nil<|aN (aR S (bC (aB hS) (aB hN)) rfl)
 obtain⟨⟨hS,hN⟩,rfl⟩:=hJ
 refine wpAny_execs_nil<|aT S (fun S=>?_)
 exact ret s S.drop
theorem xiF{sx pc uc tc fc:Addr}{uv tv fv:Array Value}{uk tk fk:Nat}{aQ:List (Option Str)}{fs:List Str}{cX:List Int×List (Str×Int)}(C:Cx gx aH A ae aE az L (dp+2) (un+6))(S:St ai ae L s l ((uc,listOf uv uk)::(pc,o)::aa))(I:Inst aa sx 252 (oH pc uc tc fc))(gC:(pc==sysModules)=false)(fJ:(tc,listOf tv tk)∈aa)(fP:(fc,listOf fv fk)∈aa)(ht:cR mu tv.toList aQ)(hf:StrsAre fv.toList fs)(ey:tv.size≤1000)(M0:iO af gx.gw uv o cX)(j5:cX.1.length=aQ.length)(vI:∀(j:Nat) (x:Str),aQ[j]?=some (some x)→cX.1[j]?=some 2)(hZ:∀nm∈fs,(nm==q "...")=false)(ret:∀s',St ai ae L s' l ((uc,listOf uv uk)::(pc,o)::aa)→R (.ok (.ret .none)) s'):codeAny (model af gx.gw) A (.call (.ref 223) ⟨[.ref sx],[]⟩) R s:=by
 have jC:tv.size≤sizeLine:=by rw[sizeLine_eq];exact oP ey
 refine xbY C S (fun g1 L1 s C S=>bo ?_)
 intro Kz Ez
 refine aS M0.ex fun aD z1=>ay z1 fun dJ gr=>?_
 clear z1
 refine ec ?_
 intro Kz
 refine cD<|a9 C S ah (HD _) I.up.up (aV ah) bA (fun s S=>dg C.hh S (bc fP) (fun Ix oi s S hO W=>?_))
 refine dF W S hO (fun i l' ag=>l'.lookup (q "self")=some (.ref sx)∧ag=((uc,listOf uv uk)::(pc,o)::aa:List (Addr×Obj))) ⟨ah,rfl⟩ (fun zz zz zz hJ=>by obtain⟨_,rfl⟩:=hJ;exact mT (mT fP)) (fun i vv s l' ag it hi hv hJ S=>?_) (fun s l' ag hJ S=>?_)
 ·intro Kz Ez
  obtain⟨hS,rfl⟩:=hJ
  refine aP (eW hf (i:=i) (by simpa using hv)) fun nm tn z1=>ay z1 fun z2 lO=>?_
  clear z1
  subst z2
  exists dG S ?_
  intro lz dz S
  refine eu S (fun s S=>?_)
  have hZ:=hZ nm (List.mem_of_getElem? lO)
  refine ec ?_
  intro Kz
  refine br ?_
  exists ap S ah<|bZ S (fun bp s S=>?_)
  refine b7 hZ<|wpAny_execs_nil<|ec ?_
  intro Kz
  refine br ?_
  exists ap S ah ?_
  refine a9 C S (am hS) (pN _) I.up.up.up ah bA (fun s S=>uq S (bc mH) dJ gC (fun s S=>?_))
  exists bV (fun c1=>?_) (fun c1=>?_)
  ·refine ec ?_
   intro Kz
   refine wpAny_Expr<|methodCall_KW ?_
   exists ap S (am hS) ?_
   refine fw C S (ij (iT _) (lh _) ⟨aA (aj (aj (qz _))),aA (aj (aj (aj (qz _))))⟩) I.up.up.up (bj (bj (bj (bj (dP))))) ?_
   exists aU S ah ?_
   refine bh C S ?_
   have S2:=St.perm S ((List.Perm.swap _ _ _).trans (.cons _ (.swap _ _ _)))
   refine xiG C S2 I.up gC (mT fJ) ht ey M0 j5 vI (fun s S=>?_)
   replace S:=St.perm S (((List.Perm.swap _ _ _).trans (.cons _ (.swap _ _ _))).symm)
   refine wpAny_execs_nil<|wpAny_execs_nil<|aN (aR S (am hS) rfl)
  ·refine wpAny_execs_nil<|wpAny_execs_nil<|aN (aR S (am hS) rfl)
 obtain⟨hS,rfl⟩:=hJ
 refine wpAny_execs_nil<|aT S (fun S=>?_)
 exact ret s S
end
noncomputable def kh(aQ:List (Option Str))(U:List Int):Nat→Nat→Nat
 |0,k=>k
 |n+1,k=>if mE aQ U k=true then k else kh aQ U n (k+1)
noncomputable def fL(aQ:List (Option Str))(st:(List Int×List (Str×Int))×Nat)(nm:Str):(List Int×List (Str×Int))×Nat:=
 if (aM st.1.2 nm).isSome then st
 else
  let k:=kh aQ st.1.1 (aQ.length- st.2) st.2
  if k<aQ.length then ((st.1.1.set k 2,bT st.1.2 nm (k:Int)),k) else (st.1,k)
theorem xhl{aQ st nm}:(fL aQ st nm).1.1.length=st.1.1.length:=by
 unfold fL
 split
 ·rfl
 ·dsimp only
  split<;>simp
theorem xhm{aQ st nm}:st.1.2.length≤(fL aQ st nm).1.2.length:=by
 unfold fL
 split
 ·exact Nat.le_refl _
 ·dsimp only
  split
  ·exact UQ _ _ _
  ·exact Nat.le_refl _
theorem A8{α σ:Type}{f:σ→α→σ}{μ:σ→Nat}(hs:∀st a,μ st≤μ (f st a)):∀(l:List α) (z:σ),μ z≤μ (l.foldl f z)
 |[],z=>Nat.le_refl _
 |a::l,z=>Nat.le_trans (hs _ _) (A8 hs l _)
theorem A9{α σ:Type}{f:σ→α→σ}{μ:σ→Nat}(hs:∀st a,μ st≤μ (f st a))(l:List α)(z:σ)(i:Nat):μ ((l.take i).foldl f z)≤μ (l.foldl f z):=by
 conv=>rhs;rw[←List.take_append_drop i l,List.foldl_append]
 exact A8 hs _ _
section
theorem xiI{sx pc uc tc fc:Addr}{uv tv:Array Value}{uk tk:Nat}{aQ:List (Option Str)}{cX:List Int×List (Str×Int)}{k:Nat}{tp:Tok}(C:Cx gx aH A ae aE az L (dp+1) (un+3))(S:St ai ae L s l ((uc,listOf uv uk)::(pc,o)::aa))(I:Inst aa sx 252 (oH pc uc tc fc))(gC:(pc==sysModules)=false)(fJ:(tc,listOf tv tk)∈aa)(ht:cR mu tv.toList aQ)(ey:tv.size≤1000)(M0:iO af gx.gw uv o cX)(j5:cX.1.length=aQ.length)(hk:k<aQ.length)(og:∀(j:Nat) (x:Str),aQ[j]?=some (some x)→(x==q "")=false)(ret:∀s',St ai ae L s' l ((uc,listOf uv uk)::(pc,o)::aa)→R (.ok (.ret (.bool (mE aQ cX.1 k)))) s'):codeAny (model af gx.gw) A (.call (.ref 244) ⟨[.ref sx,.int (k:Int) tp],[]⟩) R s:=by
 have jC:tv.size≤sizeLine:=by rw[sizeLine_eq];exact oP ey
 refine xb1 C S (fun g1 L1 s C S=>bo ?_)
 intro Kz Ez
 have eE:=bX (ht.len)
 have jD:=bX (M0.u.len)
 obtain⟨ot,jB⟩:=je (l:=aQ) (i:=k) hk
 refine aS (ht.at jB) fun vt z1=>ay z1 fun qm mI=>?_
 clear z1
 have mM:k<cX.1.length:=by exact Ur j5 hk
 obtain⟨kq,iX⟩:=je mM
 refine aS (M0.u.at iX) fun vq z1=>ay z1 fun mV z2=>aS z2 fun nr z3=>?_
 clear z1 z2
 subst z3
 refine ec ?_
 intro Kz
 refine wpAny_Return_some<|BoolOp_and<|wpAny_Compare1<|Subscript_<|a9 C S (am ah) (nN _) I.up.up (am ah) bA (fun s S=>?_)
 exists ap S ah ?_
 refine cL S mH (Int.natCast_nonneg _) (by exact OQ ey hk eE) (x:= .int kq nr) (by simpa using mV) ?_
 exists bf S (fun bp s S=>PyProof.Rows.eq_int<|bV (fun c1=>?_) (fun c1=>?_))
 ·obtain rfl:kq=0:=by simpa using c1
  refine BoolOp_one<|BoolOp_or<|wpAny_Compare1<|Subscript_<|a9 C S (am ah) (kR _) I.up.up (aB ah) bA (fun s S=>?_)
  exists ap S ah ?_
  refine cL S (bc fJ) (Int.natCast_nonneg _) (by exact OQ ey hk eE) (x:=vt) (by simpa using qm)<|wpAny_Constant_none ?_
  cases ot with
  |none=>
   obtain rfl:vt= .none:=mI
   refine is_none_none ?_
   exists gZ ?_
   refine aT S (fun S=>?_)
   have e:mE aQ cX.1 k=true:=by unfold mE;rw[iX,jB];rfl
   rw[←e];exact ret s S
  |some uG=>
   obtain⟨tt,rfl⟩:=mI
   refine is_str_none ?_
   exists ei ?_
   refine BoolOp_one<|wpAny_Compare1<|Subscript_<|a9 C S (am ah) (kR _) I.up.up (aB ah) bA (fun s S=>?_)
   exists ap S ah ?_
   refine cL S (bc fJ) (Int.natCast_nonneg _) (by exact OQ ey hk eE) (x:= .str uG tt) (by simpa using qm) ?_
   exists bE S (fun bO s S=>eq_str ?_)
   refine aT S (fun S=>?_)
   have e:mE aQ cX.1 k=(uG==q ""):=by unfold mE;rw[iX,jB,og k uG jB];rfl
   rw[←e];exact ret s S
 ·refine aT S (fun S=>?_)
  have e:mE aQ cX.1 k=(kq==0):=by
   rw[c1];unfold mE;rw[iX]
   have z:((some kq:Option Int)==some 0)=false:=by simpa using c1
   rw[z];rfl
  rw[←e];exact ret s S
theorem xiH{sx pc uc tc fc:Addr}{uv tv fv:Array Value}{uk tk fk:Nat}{aQ:List (Option Str)}{fs:List Str}{cX:List Int×List (Str×Int)}(C:Cx gx aH A ae aE az L (dp+2) (un+6))(S:St ai ae L s l ((uc,listOf uv uk)::(pc,o)::aa))(I:Inst aa sx 252 (oH pc uc tc fc))(gC:(pc==sysModules)=false)(fJ:(tc,listOf tv tk)∈aa)(fP:(fc,listOf fv fk)∈aa)(ht:cR mu tv.toList aQ)(hf:StrsAre fv.toList fs)(ey:tv.size≤1000)(M0:iO af gx.gw uv o cX)(j5:cX.1.length=aQ.length)(hZ:∀nm∈fs,(nm==q "...")=false)(og:∀(j:Nat) (x:Str),aQ[j]?=some (some x)→(x==q "")=false)(nX:(fs.foldl (fL aQ) (cX,0)).1.2.length≤1000)(ret:∀AG PM o' s',St ai ae L s' l ((uc,listOf AG PM)::(pc,o')::aa)→iO af gx.gw AG o' (fs.foldl (fL aQ) (cX,0)).1→R (.ok (.ret .none)) s'):codeAny (model af gx.gw) A (.call (.ref 237) ⟨[.ref sx],[]⟩) R s:=by
 have jC:tv.size≤sizeLine:=by rw[sizeLine_eq];exact oP ey
 refine xb0 C S (fun g1 L1 s C S=>bo ?_)
 intro Kz Ez
 have eE:=bX (ht.len)
 have jD:=bX (M0.u.len)
 refine ec ?_
 intro Kz
 refine aX ?_
 exists bf S (fun bp s S=>?_)
 refine aW S (fun s S=>ec ?_)
 intro Kz
 refine cD<|a9 C S (am ah) (HD _) I.up.up (aV ah) bA (fun s S=>dg C.hh S (bc fP) (fun Ix oi s S hO W=>?_))
 refine dF W S hO (fun i l' ag=>∃uv uk o tq,(l'.lookup (q "self")=some (.ref sx)∧l'.lookup (q "place")=some (.int ((((fs.take i).foldl (fL aQ) (cX,0)).2:Nat):Int) tq))∧ag=((uc,listOf uv uk)::(pc,o)::aa:List (Addr×Obj))∧iO af gx.gw uv o ((fs.take i).foldl (fL aQ) (cX,0)).1∧((fs.take i).foldl (fL aQ) (cX,0)).1.1.length=aQ.length∧((fs.take i).foldl (fL aQ) (cX,0)).2≤aQ.length) ⟨_,_,_,_,⟨(am ah),ah⟩,rfl,M0,j5,Nat.zero_le _⟩ (fun zz zz zz hJ=>by obtain⟨_,_,_,_,_,rfl,_⟩:=hJ;exact mT (mT fP)) (fun i vv s l' ag it hi hv hJ S=>?_) (fun s l' ag hJ S=>?_)
 ·intro Kz Ez
  refine cB hJ fun uv uk o tq z1=>eJ z1 fun z2 z3 hM cV dQ=>ay z2 fun hS hP=>?_
  clear hJ z1 z2
  refine xS1 z3 S fun S=>?_
  refine aP (eW hf (i:=i) (by simpa using hv)) fun nm tn z1=>ay z1 fun z2 lO=>?_
  clear z1
  subst z2
  have hZ:=hZ nm (List.mem_of_getElem? lO)
  have Bv:(fs.take (i+1)).foldl (fL aQ) (cX,0)=fL aQ ((fs.take i).foldl (fL aQ) (cX,0)) nm:=dq _ _ lO
  have Sl:=A9 (f:=fL aQ) (μ:=fun s=>s.1.2.length) (fun st a=>xhm) fs (cX,0) i
  generalize ((fs.take i).foldl (fL aQ) (cX,0))=st at hP hM cV dQ Bv Sl
  refine aS hM.ex fun aD z1=>ay z1 fun dJ gr=>?_
  clear z1
  have jD:=bX (hM.u.len)
  exists dG S ?_
  intro lz dz S
  refine eu S (fun s S=>ec ?_)
  intro Kz
  refine br ?_
  exists ap S ah<|bZ S (fun bO s S=>?_)
  refine b7 hZ<|wpAny_execs_nil<|ec ?_
  intro Kz
  refine br ?_
  exists ap S ah ?_
  refine a9 C S (am hS) (pN _) I.up.up.up ah bA (fun s S=>uq S (bc mH) dJ gC (fun s S=>?_))
  exists bV (fun c1=>?_) (fun c1=>?_)
  ·have fG:(aM st.1.2 nm).isSome=false:=by rw[gr.isSome] at c1;simpa using c1
   have bq:fL aQ st nm=(if kh aQ st.1.1 (aQ.length- st.2) st.2<aQ.length then ((st.1.1.set (kh aQ st.1.1 (aQ.length- st.2) st.2) 2,bT st.1.2 nm ((kh aQ st.1.1 (aQ.length- st.2) st.2:Nat):Int)),kh aQ st.1.1 (aQ.length- st.2) st.2) else (st.1,kh aQ st.1.1 (aQ.length- st.2) st.2)):=by unfold fL;rw[if_neg (by rw[fG];decide)]
   generalize hK:kh aQ st.1.1 (aQ.length- st.2) st.2=K at bq
   refine ec ?_
   intro Kz
   refine U7 (fun n l' ag=>∃k tk,n=aQ.length- k∧k≤aQ.length∧kh aQ st.1.1 (aQ.length- k) k=K∧(l'.lookup (q "self")=some (.ref sx)∧l'.lookup (q "name")=some (.str nm tn)∧l'.lookup (q "place")=some (.int ((k:Nat):Int) tk))∧ag=(it::(uc,listOf uv uk)::(pc,o)::aa:List (Addr×Obj))) (aQ.length- st.2) S ⟨st.2,_,rfl,dQ,hK,⟨(am hS),ah,(am hP)⟩,rfl⟩ (fun n s l' ag hJ S=>aP hJ fun k tk z1=>eJ z1 fun z2 mP lM z3 z4=>aO z3 fun hS hN hP=>?_)
   clear hJ z1 z3
   subst z2
   refine Wq z4 S fun S=>?_
   refine isTrue_and<|wpAny_isTrue_Compare1 ?_
   exists ap S hP ?_
   refine eU C S (eO _) eL<|spliced_more<|a9 C S hS (kR _) I.up.up.up (aB ah) bA (fun s S=>spliced_none<|eV S (b5 fJ) jC (fun tq s S=>?_))
   exists Gv<|bV (fun c2=>?_) (fun c2=>?_)
   ·have hk:k<aQ.length:=by simpa [eE] using c2
    obtain⟨m,hm⟩:∃m,aQ.length- k=m+1:=⟨aQ.length- k- 1,by exact xgo hk⟩
    rw[hm] at lM;unfold kh at lM
    refine isTrue_and<|isTrue_not<|isTrue_plain<|methodCall_KW ?_
    exists ap S hS ?_
    refine fw C S (ij (iT _) (lh _) ⟨aA (qE _),aA (aj (qE _))⟩) I.up.up.up (bj (bj (bj (bj (dP))))) ?_
    exists aU S hP ?_
    refine bh C S ?_
    have S2:=St.perm S ((List.Perm.swap _ _ _).trans (.cons _ (.swap _ _ _)))
    refine xiI C S2 I.up gC (mT fJ) ht ey hM cV hk og (fun s S=>?_)
    replace S:=St.perm S (((List.Perm.swap _ _ _).trans (.cons _ (.swap _ _ _))).symm)
    exists wpAny_truthy_bool ?_
    refine vO (fun c3=>?_) (fun c3=>?_)
    ·rw[if_neg (cO c3)] at lM
     exists isTrue_and_nil<|er ?_
     refine ec ?_
     intro Kz
     refine wpAny_AugAssign_Name<|UZ S hP ?_
     exists bf S (fun cu s S=>?_)
     refine Pc S (fun ta s S=>aW S (fun s S=>wpAny_execs_nil<|eK (a:=m) (aR (by exact xgn hm) S (aN (a:=k+1) (b:=ta) (iL (by exact xgm hm) (by exact xgl hm) ?_ (aR (am hS) (am hN) (by simp)) rfl)))))
     rw[show aQ.length- (k+1)=m by exact Us hm];exact lM
    ·rw[if_pos c3] at lM;subst lM
     exists cJ ?_
     refine ec ?_
     intro Kz
     refine br ?_
     exists ap S hP ?_
     refine eU C S (eO _) eL<|spliced_more<|a9 C S hS (kR _) I.up.up.up (aB ah) bA (fun s S=>spliced_none<|eV S (b5 fJ) jC (fun tq s S=>?_))
     exists Gv ?_
     refine tbT c2 ?_
     rw[if_pos hk] at bq
     refine ec ?_
     intro Kz
     refine wpAny_Assign_Subscript ?_
     exists ap S hP ?_
     refine a9 C S hS (pN _) I.up.up.up ah bA (fun s S=>?_)
     exists ap S hN ?_
     have xdx:=gr.len
     refine jn S (fun zz=>(Up.tail (Up.tail Up.head))) dJ (by rw[sizeLine_eq];exact xgk nX Sl xdx) (fun o2 s fg S=>?_)
     refine ec ?_
     intro Kz
     refine wpAny_Assign_Subscript ?_
     exists bf S (fun cu s S=>?_)
     refine a9 C S hS (nN _) I.up.up.up (am ah) bA (fun s S=>?_)
     exists ap S hP ?_
     refine U3 S (Up.tail Up.head) (Int.natCast_nonneg _) (by exact xgj ey eE hm) (by exact xgi cV jD hm) (fun s S=>wpAny_execs_nil<|wpAny_execs_nil<|wpAny_execs_nil ?_)
     try show∃_,_
     rw[Bv,bq]
     refine aN (bC S (gJ (iL (bC hS hP) rfl ⟨?_,_,fg,gr.put ⟨_,rfl⟩⟩ (by simpa using cV) mP)))
     simpa using hM.u.Vq (a:=2) ⟨_,rfl⟩ k
   ·have hk:k=aQ.length:=by simp[eE] at c2;exact xgh mP c2
    rw[show aQ.length- k=0 by exact xgg hk] at lM;unfold kh at lM;subst lM
    exists cJ ?_
    refine ec ?_
    intro Kz
    refine br ?_
    exists ap S hP ?_
    refine eU C S (eO _) eL<|spliced_more<|a9 C S hS (kR _) I.up.up.up (aB ah) bA (fun s S=>spliced_none<|eV S (b5 fJ) jC (fun tq s S=>?_))
    exists Gv ?_
    refine gY c2<|wpAny_execs_nil<|wpAny_execs_nil<|wpAny_execs_nil ?_
    try show∃_,_
    rw[Bv,bq,if_neg (by exact xgf hk)]
    refine aN (bC S (gJ (iL (bC hS hP) rfl hM cV mP)))
  ·have bq:fL aQ st nm=st:=by unfold fL;rw[if_pos (by rw[gr.isSome] at c1;simpa using c1)]
   refine wpAny_execs_nil<|wpAny_execs_nil ?_
   try show∃_,_
   rw[Bv,bq]
   refine aN (bC S (gJ (iL (bC (am hS) (am hP)) rfl hM cV dQ)))
 refine cB hJ fun uv uk o tq z1=>eJ z1 fun z2 z3 hM cV dQ=>ay z2 fun hS hP=>?_
 clear hJ z1 z2
 refine Wq z3 S fun S=>?_
 have eR:=cG hf;rw[Array.length_toList] at eR
 rw[List.take_of_length_le (by exact fK eR)] at hM
 refine wpAny_execs_nil<|aT S (fun S=>?_)
 exact ret _ _ _ s S hM
end
def jL(aa:List (Addr×Obj))(vs:List Value)(ps:List (Option Str×Value)):Prop:=cR (fun p x=>∃t c tv,x= .ref t∧(t,bK #[tv,p.2] c)∈aa∧mu p.1 tv) vs ps
theorem jL.mem{vs ps}(h:jL aa vs ps)(k:∀p∈aa,p∈ag):jL ag vs ps:=h.mono fun p x ⟨t,c,tv,e,m,g⟩=>⟨t,c,tv,e,k _ m,g⟩
theorem jL.up{aa vs ps}{p:Addr×Obj}(h:jL aa vs ps):jL (p::aa) vs ps:=h.mem fun zz h=> .tail _ h
theorem jL.app{aa aw vs ps}(h:jL aa vs ps):jL (aw++aa) vs ps:=h.mem fun zz h=>mA h
def nA(fs:List Str)(aQ:List (Option Str))(P:List (Str×Int)):Prop:=∃e U,fs.foldlM (jS aQ) (List.replicate aQ.length 0,[])=some e∧(∀(j:Nat) (x:Str),aQ[j]?=some (some x)→e.1[j]?=some 2)∧
 (fs.foldl (fL aQ) (e,0)).1=(U,P)∧(∀k∈U,k≠0)∧e.2.length≤1000∧P.length≤1000∧(∀nm∈fs,(nm==q "...")=false)∧(∀(j:Nat) (x:Str),aQ[j]?=some (some x)→(x==q "")=false)
theorem iO.start{af w}{n:Nat}{t:Tok}:iO af w (List.replicate n (.int 0 t)).toArray emptyDict (List.replicate n 0,[]):=
 ⟨by simpa using cR.rep ⟨t,rfl⟩ n,[],lB,.nil⟩
theorem xcP{aQ:List (Option Str)}:∀{fs:List Str} {z r},fs.foldlM (jS aQ) z=some r→r.1.length=z.1.length:=fun{fs z r} h=>RI (I:=fun s=>s.1.length=z.1.length) (fun s a s' hs e=>(Rw e).trans hs) rfl h
theorem RM{aQ:List (Option Str)}:∀(fs:List Str) (z),(fs.foldl (fL aQ) z).1.1.length=z.1.1.length
 |[],z=>rfl
 |f::fs,z=>(RM fs _).trans xhl
section
theorem xiJ{sx pc uc tc fc:Addr}{uv tv:Array Value}{uk tk:Nat}{aQ:List (Option Str)}{cX:List Int×List (Str×Int)}(C:Cx gx aH A ae aE az L (dp+1) (un+3))(S:St ai ae L s l ((uc,listOf uv uk)::(pc,o)::aa))(I:Inst aa sx 252 (oH pc uc tc fc))(gC:(pc==sysModules)=false)(fJ:(tc,listOf tv tk)∈aa)(ht:cR mu tv.toList aQ)(ey:tv.size≤1000)(M0:iO af gx.gw uv o cX)(j5:cX.1.length=aQ.length)(kU:∀k∈cX.1,k≠0)(ret:∀r k s',St ai ae L s' l ((r,listOf #[] k)::(uc,listOf uv uk)::(pc,o)::aa)→R (.ok (.ret (.ref r))) s'):codeAny (model af gx.gw) A (.call (.ref 249) ⟨[.ref sx],[]⟩) R s:=by
 have jC:tv.size≤sizeLine:=by rw[sizeLine_eq];exact oP ey
 have eE:=bX (ht.len)
 have jD:=bX (M0.u.len)
 refine xb2 C S (fun g1 L1 s oc fH C S=>bo ?_)
 intro Kz Ez
 refine ec ?_
 intro Kz
 refine wpAny_Return_some<|Au (cl:=[(q "self",L1+1)]) (by rfl) (lb (by kernel_rfl)) (namesOk (by kernel_rfl)) ?_ (gz:=rfl)
 refine fS C S (jf _) ja<|spliced_more<|eU C S (eO _) eL<|spliced_more ?_
 exists Attribute_Name_<|jI S vX mH fH ?_
 refine gU C S (kR _) I.up.up.up (aB ah) bA (fun s S=>spliced_none<|eV S (b5 fJ) jC (fun tq s S=>spliced_none<|jm S (fun r1 VZ V5 s S Jh=>jl C.hh S mH (Int.natCast_nonneg _) (by exact OP ey) (fun Iy oj s S hO W2=>?_))))
 refine AL (b:=L1) (e:=Iy) (k:=(fun i ys ag=>ag=((r1,_)::(L1+1,oc)::(uc,listOf uv uk)::(pc,o)::aa:List (Addr×Obj))∧ys=[])) (pt rfl W2 S hO (by rw[Int.toNat_natCast];exact jC) ⟨rfl,rfl⟩ (fun zz zz zz zz=>trivial) (fun j v s lc ys k D Cn oL ag it EE hj hv hJ hL jx lI S=>?_) (fun D ys k ag s hJ S=>?_))
 ·obtain⟨tp,rfl⟩:=hv
  obtain⟨rfl,rfl⟩:=hJ
  rw[Int.toNat_natCast] at hj
  have mM:j<cX.1.length:=by exact xgp j5 eE hj
  obtain⟨kq,iX⟩:=je mM
  refine aS (M0.u.at iX) fun vq z1=>ay z1 fun mV z2=>aS z2 fun nr z3=>?_
  clear z1 z2
  subst z3
  refine mf S rfl (fun s S=>?_) (hk:=rfl) (hl:=(by kernel_rfl))
  refine wpAny_tests_one<|wpAny_isTrue_Compare1<|Subscript_ ?_
  exists Attribute_Name_ ?_
  refine uz S (by kernel_rfl) (ch mH) fH ?_ (hk:=rfl) (hl:=(by kernel_rfl))
  refine xhq C.X S (nN _) I.up.up.up.up.up.up.up (am ah) bA (fun s S=>lj S rfl ah ?_ (hk:=rfl) (hl:=(by kernel_rfl)))
  refine cL S (eg mH) (Int.natCast_nonneg _) (by exact oO ey hj) (x:= .int kq nr) (by simpa using mV) ?_
  exists bf S (fun bO s S=>PyProof.Rows.eq_int<|wpAny_truthy_bool ?_)
  have n7:(kq==0)=false:=by have:=kU kq (List.mem_of_getElem? iX);simpa using this
  refine b7 n7 ?_
  exact eK (bW S hL rfl rfl)
 obtain⟨rfl,rfl⟩:=hJ
 refine aT S (fun S=>?_)
 exact ret D _ s (S.sub (.cons_cons _ (.cons _ (.cons _ (List.Sublist.refl _)))))
theorem xiK{fc ac:Addr}{fv av:Array Value}{fk ak:Nat}{fs:List Str}{ps:List (Option Str×Value)}{P:List (Str×Int)}(C:Cx gx aH A ae aE az L (dp+3) (un+9))(S:St ai ae L s l aa)(fP:(fc,listOf fv fk)∈aa)(dB:(ac,listOf av ak)∈aa)(hf:StrsAre fv.toList fs)(ha:jL aa av.toList ps)(lJ:ps.length≤1000)(hM:nA fs (ps.map (·.1)) P)(ret:∀t pc o rc k aD aw s',St ai ae L s' l ((t,bK #[.ref pc,.ref rc] 0)::(pc,o)::(rc,listOf #[] k)::(aw++aa))→o.IsDictOf (PySem.strKind af gx.gw) aD→Al Qd aD P→(pc==sysModules)=false→R (.ok (.ret (.ref t))) s'):
  codeAny (model af gx.gw) A (.call (.ref 281) ⟨[.ref fc,.ref ac,.none],[]⟩) R s:=by
 refine aP hM fun e U z1=>GR z1 fun R9 vI HX hU j7 vL hZ og=>?_
 clear hM z1
 have gr:=bX (ha.len)
 refine xb3 C S (fun g1 L1 s C S=>bo ?_)
 intro Kz Ez
 refine ec ?_
 intro Kz
 refine aX<|iJ C S (aA (aj (aj (pT _)))) (Ra _) ?_
 exists bQ S (aB ah) ?_
 refine spliced_more<|Au (uX (by kernel_rfl)) (lb (by kernel_rfl)) (namesOk (by kernel_rfl)) ?_ (gz:=rfl)
 exists ap S (am ah) ?_
 refine dg C.hh S dB (fun Ix oi s S hO W=>?_)
 refine AL (b:=L1) (e:=Ix) (k:=(fun i ys ag=>aa=ag∧cR mu ys ((ps.map (·.1)).take i))) (pt rfl W S hO (by rw[sizeLine_eq];exact OR lJ gr) ⟨rfl,.nil⟩ (fun zz zz zz hJ=>by obtain⟨rfl,_⟩:=hJ;exact dB) (fun i v s lc ys k D Cn oL ag it EE hi hv hJ hL jx lI S=>?_) (fun D ys k ag s hJ S=>?_))
 ·obtain⟨rfl,dh⟩:=hJ
  obtain⟨⟨tg,pv⟩,hp,t,c,tv,rfl,IL,hT⟩:=ha.get (i:=i) (by simpa using hv)
  have IE:(ps.map (·.1))[i]?=some tg:=by rw[List.getElem?_map,hp];rfl
  refine mf S rfl (fun s S=>?_) (hk:=rfl) (hl:=(by kernel_rfl))
  refine wpAny_tests_nil<|er<|Subscript_<|lj S rfl ah ?_ (hk:=rfl) (hl:=(by kernel_rfl))
  exists bf S (fun bp s S=>?_)
  refine li S (b5 IL) (by decide) (by decide) (x:=tv) rfl ?_
  exact eK (bW S hL rfl (by rw[take_snoc IE];exact dh.snoc hT))
 obtain⟨rfl,dh⟩:=hJ
 rw[List.take_of_length_le (by rw[List.length_map];exact fK gr)] at dh
 have ib:=dh.len
 rw[List.length_map] at ib
 refine spliced_none<|iE C S ?_
 refine xeI C S mH (by rw[List.size_toArray,sizeLine_eq];exact OR lJ ib) (fun tz pc uc x4 x dx od s S hA l1 l2 gC=>?_)
 replace S:=S.sw
 rw[List.size_toArray] at S
 refine aW S (fun s S=>?_)
 have I:Inst ((x4,listOf #[.int 0 tz] 0)::(x,instObj 252 dx)::(dx,od)::(D,listOf ys.toArray k)::aa) x 252 (oH pc uc D fc):=⟨_,_,mT mH,mT (mT mH),hA⟩
 have n9:=xcP R9
 have oa:=RM fs (aQ:=ps.map (·.1)) (e,0)
 rw[HX] at oa
 dsimp only at n9 oa
 rw[List.length_replicate] at n9
 refine ec ?_
 intro Kz
 refine wpAny_Expr<|methodCall_KW ?_
 exists ap S ah ?_
 refine Gw C S (ij (iT _) (lh _) ⟨aA (aj (aj (aj (aj (qy _))))),aj (aj (aj (aj (aj (qy _)))))⟩) ⟨_,_,(b5 mH),(ch mH),hA⟩ (bj (bj (bj (bj (dP))))) ?_
 refine xiE (tv:=ys.toArray) C S I gC (b5 mH) (ch fP) (by simpa using dh) hf (by rw[List.size_toArray];exact Gh lJ ib) iO.start (by simp[ib]) (by rw[ib];simpa using R9) j7 (fun uv1 uk1 o1 s S M1=>?_)
 refine ec ?_
 intro Kz
 refine wpAny_Expr<|methodCall_KW ?_
 exists ap S ah ?_
 refine Gw C S (ij (iT _) (lh _) ⟨aA (qz _),aA (aj (qz _))⟩) ⟨_,_,(b5 mH),(ch mH),hA⟩ (bj (bj (bj (bj (dP))))) ?_
 refine xiF (tv:=ys.toArray) C S I gC (b5 mH) (ch fP) (by simpa using dh) hf (by rw[List.size_toArray];exact Gh lJ ib) M1 n9 vI hZ (fun s S=>?_)
 refine ec ?_
 intro Kz
 refine wpAny_Expr<|methodCall_KW ?_
 exists ap S ah ?_
 refine Gw C S (ij (iT _) (lh _) ⟨aA (aj (aj (aj (aj (qz _))))),aj (aj (aj (aj (aj (qz _)))))⟩) ⟨_,_,(b5 mH),(ch mH),hA⟩ (bj (bj (bj (bj (dP))))) ?_
 refine xiH (tv:=ys.toArray) C S I gC (b5 mH) (ch fP) (by simpa using dh) hf (by rw[List.size_toArray];exact Gh lJ ib) M1 n9 hZ og (by rw[HX];exact vL) (fun uv2 uk2 o2 s S M2=>?_)
 rw[HX] at M2
 refine ec ?_
 intro Kz
 refine aX<|methodCall_KW ?_
 exists ap S ah ?_
 refine Gw C S (ij (iT _) (lh _) ⟨aA (aj (aj (qE _))),aA (aj (aj (aj (qE _))))⟩) ⟨_,_,(b5 mH),(ch mH),hA⟩ (bj (bj (bj (bj (dP))))) ?_
 refine xiJ (tv:=ys.toArray) C S I gC (b5 mH) (by simpa using dh) (by rw[List.size_toArray];exact Gh lJ ib) M2 (oa.trans n9) hU (fun rc rk s S=>?_)
 refine aW S (fun s S=>ec ?_)
 intro Kz
 refine wpAny_If<|isTrue_and<|wpAny_isTrue_Compare1<|eU C S (eO _) eL ?_
 exists aU S ah ?_
 refine eV S mH (Nat.zero_le _) (fun tq s S=>?_)
 exists bf S (fun bp s S=>PyProof.Rows.gt_int ?_)
 refine gY rfl ?_
 exists cJ ?_
 refine wpAny_execs_nil<|ec ?_
 intro Kz
 refine wpAny_Return_some ?_
 exists Tuple_ ?_
 refine spliced_more<|a9 C S (am ah) (pN _) ⟨_,_,(ch mH),(eg mH),hA⟩ ah bA (fun s S=>?_)
 exists aU S ah ?_
 refine ea S aG (fun t9 s S l9=>aT S (fun S=>aS M2.ex fun aD z1=>ay z1 fun dJ Bo=>?_))
 clear z1
 exact ret t9 pc o2 rc rk aD [(uc,_),(x4,_),(x,_),(dx,_),(D,_)] s (S.perm (.cons _ ((List.Perm.cons _ (.swap _ _ _)).trans (.swap _ _ _)))) dJ Bo gC
end
noncomputable def mi(P:List (Str×Int))(ps:List (Option Str×Value))(nm:Str):Value:=match aM P nm with|some k=>((ps[k.toNat]?).map (·.2)).getD .none|none=> .none
section
theorem AA{fc ac:Addr}{fv av:Array Value}{fk ak:Nat}{fs:List Str}{ps:List (Option Str×Value)}{P:List (Str×Int)}(C:Cx gx aH A ae aE az L (dp+4) (un+12))(S:St ai ae L s l aa)(fP:(fc,listOf fv fk)∈aa)(dB:(ac,listOf av ak)∈aa)(hf:StrsAre fv.toList fs)(ha:jL aa av.toList ps)(lJ:ps.length≤1000)(hM:nA fs (ps.map (·.1)) P)(hPk:∀nm k,aM P nm=some k→0≤k∧k.toNat<ps.length)(nX:fs.length≤1000)(ret:∀r vs k aw s',St ai ae L s' l ((r,listOf vs k)::(aw++aa))→vs.toList=fs.map (mi P ps)→R (.ok (.ret (.ref r))) s'):
  codeAny (model af gx.gw) A (.call (.ref 287) ⟨[.ref ac,.ref fc],[]⟩) R s:=by
 have eR:=bX (cG hf)
 have Sh:fv.size≤sizeLine:=by rw[sizeLine_eq];exact OR nX eR
 have gr:=bX (ha.len)
 refine xb4 C S (fun g1 L1 s oc fH C S=>bo ?_)
 intro Kz Ez
 refine ec ?_
 intro Kz
 refine U6<|aY C S (xdh _)<|spliced_more<|fS C S (nP _) nD ?_
 exists aU S (am ah) ?_
 refine oW S (mT fP) Sh (fun x1 cx1 s S eA=>spliced_more ?_)
 exists jI S vX (mT mH) fH<|aU S ah ?_
 refine bh C S<|xiK C S mH (bc dB) hf ha.up.up lJ hM (fun t pc o rc rk aD aw s S dJ Bo gC=>uw C S mH (fun s S=>ec ?_))
 intro Kz
 refine aX ?_
 exists List_ ?_
 refine cF S aG (fun x2 s S dE=>aW S (fun s S=>ec ?_))
 intro Kz
 refine cD ?_
 exists ap S (bR ah) ?_
 refine dg C.hh S (ch (mA (bc fP))) (fun Ix oi s S hO W=>?_)
 refine dF W S hO (fun i l' ag=>(l'.lookup (q "formals")=some (.ref fc)∧l'.lookup (q "places")=some (.ref pc)∧l'.lookup (q "values")=some (.ref x2))∧∃vs n,ag=((x2,listOf vs n)::(t,bK #[.ref pc,.ref rc] 0)::(pc,o)::(rc,listOf #[] rk)::(aw++((x1,listOf fv cx1)::(L1+1,oc)::aa)):List (Addr×Obj))∧vs.toList=(fs.take i).map (mi P ps)) ⟨⟨(bR ah),(aB ah),ah⟩,#[],_,rfl,rfl⟩ (fun zz zz zz hJ=>by obtain⟨_,_,_,rfl,_⟩:=hJ;exact(ch (mA (bc fP)))) (fun i vv s l' ag it hi hv hJ S=>?_) (fun s l' ag hJ S=>?_)
 ·intro Kz Ez
  refine ay hJ fun z1 z2=>aO z1 fun hF hP hV=>aP z2 fun vs n z3=>ay z3 fun z4 ci=>?_
  clear hJ z1 z2 z3
  refine xS1 z4 S fun S=>?_
  refine aP (eW hf (i:=i) (by simpa using hv)) fun nm tn z1=>ay z1 fun z2 lO=>?_
  clear z1
  subst z2
  refine aP hM fun z1 z2 z3=>GR z3 fun z4 z5 z6 z7 z8 z9 xdE z10=>?_
  clear hM z3
  have hZ:=xdE nm (List.mem_of_getElem? lO)
  have j6:vs.size=_:=(Array.length_toList).symm.trans (congrArg List.length ci)
  rw[List.length_map] at j6
  have eE:=List.length_take_le i fs
  have dw:vs.size≤sizeLine:=by exact Uj Sh hi j6 eE
  have Sw:((fs.take (i+1)).map (mi P ps))=(fs.take i).map (mi P ps)++[mi P ps nm]:=by rw[take_snoc lO,List.map_append];rfl
  exists dG S ?_
  intro lz dz S
  refine eu S (fun s S=>ec ?_)
  intro Kz
  refine br ?_
  exists ap S ah<|bZ S (fun cu s S=>?_)
  refine b7 hZ<|ec ?_
  intro Kz
  refine br ?_
  exists ap S ah<|ap S (am hP) ?_
  refine Gt S (b5 mH) dJ gC (Bo.isSome _) (fun s S=>?_)
  exists bV (fun c1=>?_) (fun c1=>?_)
  ·obtain⟨k,hk⟩:=Option.isSome_iff_exists.mp c1
   obtain⟨n7,mP⟩:=hPk nm k hk
   obtain⟨⟨tg,pv⟩,hp⟩:=je mP
   refine aS (ha.at hp) fun v0 z1=>ay z1 fun hv0 z2=>cQ z2 fun t2 c2 tv2 z3=>aO z3 fun z4 IL hT=>?_
   clear z1 z2 z3
   subst z4
   refine aS (Bo.hit hk) fun v1 z1=>ay z1 fun oh z2=>aS z2 fun bp z3=>?_
   clear z1 z2
   subst z3
   have IM:mi P ps nm=pv:=by unfold mi;rw[hk];simp only;rw[hp];rfl
   refine ec ?_
   intro Kz
   refine wpAny_Expr<|methodCall_KW ?_
   exists ap S (am hV) ?_
   refine ft S (mT mH)<|Subscript_<|Subscript_ ?_
   exists jI S vX (eg (mA (mT mH))) fH ?_
   refine Subscript_ ?_
   exists ap S (am hP)<|ap S ah ?_
   refine UY S (b5 mH) dJ oh (fun s S=>cL S (eg (mA (bc dB))) n7 (by exact xgq lJ mP) (x:= .ref t2) (by simpa using hv0) ?_)
   exists bf S (fun fe s S=>?_)
   refine li S (eg (mA (bc IL))) (by decide) (by decide) (x:=pv) rfl<|fb S (Up.tail Up.head) dw (fun s S=>wpAny_execs_nil<|wpAny_execs_nil<|wpAny_execs_nil<|aN (aR S (aR (am hF) (am hP) (am hV)) (aN (bC rfl ?_))))
   rw[Sw,IM,Array.toList_push,ci]
  ·have fG:aM P nm=none:=by cases e:aM P nm<;>simp[e] at c1 ⊢
   have IM:mi P ps nm= .none:=by unfold mi;rw[fG]
   refine ec ?_
   intro Kz
   refine wpAny_Expr<|methodCall_KW ?_
   exists ap S (am hV) ?_
   refine ft S (mT mH) ?_
   exists wpAny_Constant_none ?_
   refine fb S (Up.tail Up.head) dw (fun s S=>wpAny_execs_nil<|wpAny_execs_nil<|wpAny_execs_nil<|aN (aR S (aR (am hF) (am hP) (am hV)) (aN (bC rfl ?_))))
   rw[Sw,IM,Array.toList_push,ci]
 refine ay hJ fun z1 z2=>aO z1 fun hF hP hV=>aP z2 fun vs n z3=>ay z3 fun z4 ci=>?_
 clear hJ z1 z2 z3
 refine Wq z4 S fun S=>?_
 rw[List.take_of_length_le (by exact fK eR)] at ci
 refine ec ?_
 intro Kz
 refine wpAny_Return_some ?_
 exists ap S hV ?_
 refine aT S (fun S=>?_)
 exact ret x2 vs n ([(t,_),(pc,_),(rc,_)]++(aw++[(x1,_),(L1+1,oc)])) s (by simpa using S) ci
end
theorem xic:nA [q "class1",q "class2"] [none,none] [(q "class1",0),(q "class2",1)]:=by
 refine aN (a:=([0,0],[])) (b:=[2,2]) (uL (by kernel_rfl) ?_ (by kernel_rfl) (by decide) (by decide) (by decide) ?_ ?_)
 ·intro j x h
  match j,h with
  |0,h=>simp at h
  |1,h=>simp at h
  |j+2,h=>simp at h
 ·intro nm h
  simp only[List.mem_cons,List.not_mem_nil,or_false] at h
  rcases h with rfl|rfl<;>exact jj (by decide)
 ·intro j x h
  match j,h with
  |0,h=>simp at h
  |1,h=>simp at h
  |j+2,h=>simp at h
theorem xh7:∀nm k,aM ([(q "class1",0),(q "class2",1)]:List (Str×Int)) nm=some k→0≤k∧k.toNat<2:=by
 intro nm k h
 have:=ii h
 simp only[List.mem_cons,Prod.mk.injEq,List.not_mem_nil,or_false] at this
 rcases this with⟨rfl,rfl⟩|⟨rfl,rfl⟩<;>decide
theorem xid:nA [q "object",q "class2"] [none,none] [(q "object",0),(q "class2",1)]:=by
 refine aN (a:=([0,0],[])) (b:=[2,2]) (uL (by kernel_rfl) ?_ (by kernel_rfl) (by decide) (by decide) (by decide) ?_ ?_)
 ·intro j x h
  match j,h with
  |0,h=>simp at h
  |1,h=>simp at h
  |j+2,h=>simp at h
 ·intro nm h
  simp only[List.mem_cons,List.not_mem_nil,or_false] at h
  rcases h with rfl|rfl<;>exact jj (by decide)
 ·intro j x h
  match j,h with
  |0,h=>simp at h
  |1,h=>simp at h
  |j+2,h=>simp at h
theorem xh8:∀nm k,aM ([(q "object",0),(q "class2",1)]:List (Str×Int)) nm=some k→0≤k∧k.toNat<2:=by
 intro nm k h
 have:=ii h
 simp only[List.mem_cons,Prod.mk.injEq,List.not_mem_nil,or_false] at this
 rcases this with⟨rfl,rfl⟩|⟨rfl,rfl⟩<;>decide
theorem xig:nA [q "Class"] [none] [(q "Class",0)]:=by
 refine aN (a:=([0],[])) (b:=[2]) (uL (by kernel_rfl) ?_ (by kernel_rfl) (by decide) (by decide) (by decide) ?_ ?_)
 ·intro j x h
  match j,h with
  |0,h=>simp at h
  |j+1,h=>simp at h
 ·intro nm h
  simp only[List.mem_cons,List.not_mem_nil,or_false] at h
  rcases h with rfl<;>exact jj (by decide)
 ·intro j x h
  match j,h with
  |0,h=>simp at h
  |j+1,h=>simp at h
theorem xib:∀nm k,aM ([(q "Class",0)]:List (Str×Int)) nm=some k→0≤k∧k.toNat<1:=by
 intro nm k h
 have:=ii h
 simp only[List.mem_cons,Prod.mk.injEq,List.not_mem_nil,or_false] at this
 obtain⟨rfl,rfl⟩:=this;decide
theorem xif:nA [q "name",q "members",q "where"] [none,some (q "members")] [(q "members",1),(q "name",0)]:=by
 refine aN (a:=([0,2],[(q "members",1)])) (b:=[2,2]) (uL (by kernel_rfl) ?_ (by kernel_rfl) (by decide) (by decide) (by decide) ?_ ?_)
 ·intro j x h
  match j,h with
  |0,h=>simp at h
  |1,h=>rfl
  |j+2,h=>simp at h
 ·intro nm h
  simp only[List.mem_cons,List.not_mem_nil,or_false] at h
  rcases h with rfl|rfl|rfl<;>exact jj (by decide)
 ·intro j x h
  match j,h with
  |0,h=>simp at h
  |1,h=>rw[show x=q "members" from by simpa using h.symm];exact jj (by decide)
  |j+2,h=>simp at h
theorem xia:∀nm k,aM ([(q "members",1),(q "name",0)]:List (Str×Int)) nm=some k→0≤k∧k.toNat<2:=by
 intro nm k h
 have:=ii h
 simp only[List.mem_cons,Prod.mk.injEq,List.not_mem_nil,or_false] at this
 rcases this with⟨rfl,rfl⟩|⟨rfl,rfl⟩<;>decide
theorem xie:nA [q "Class",q "representation",q "prototype",q "contains",q "validity",q "access",q "where",q "version",q "sealed",q "package",q "S3methods",q "slots"] [none,some (q "slots"),some (q "contains")] [(q "contains",2),(q "slots",1),(q "Class",0)]:=by
 refine aN (a:=([0,2,2],[(q "contains",2),(q "slots",1)])) (b:=[2,2,2]) (uL (by kernel_rfl) ?_ (by kernel_rfl) (by decide) (by decide) (by decide) ?_ ?_)
 ·intro j x h
  match j,h with
  |0,h=>simp at h
  |1,h=>rfl
  |2,h=>rfl
  |j+3,h=>simp at h
 ·intro nm h
  simp only[List.mem_cons,List.not_mem_nil,or_false] at h
  rcases h with rfl|rfl|rfl|rfl|rfl|rfl|rfl|rfl|rfl|rfl|rfl|rfl<;>exact jj (by decide)
 ·intro j x h
  match j,h with
  |0,h=>simp at h
  |1,h=>rw[show x=q "slots" from by simpa using h.symm];exact jj (by decide)
  |2,h=>rw[show x=q "contains" from by simpa using h.symm];exact jj (by decide)
  |j+3,h=>simp at h
theorem xh9:∀nm k,aM ([(q "contains",2),(q "slots",1),(q "Class",0)]:List (Str×Int)) nm=some k→0≤k∧k.toNat<3:=by
 intro nm k h
 have:=ii h
 simp only[List.mem_cons,Prod.mk.injEq,List.not_mem_nil,or_false] at this
 rcases this with⟨rfl,rfl⟩|⟨rfl,rfl⟩|⟨rfl,rfl⟩<;>decide
section
end
section
theorem xiw{i di gl:Addr}{F:List Addr}{b:Bool}{cs:List (Str×CA)}{ac:Addr}{ak:Nat}{ta tb:Addr}{c1 c2:Nat}{va vb:Addr}{a c:Str}{ev:Value}(C:Cx gx aH A ae aE az L (dp+7) (un+21))(S:St ai ae L s l aa)(Y:Sys af gx.gw W aa i di gl F b cs us)(dB:(ac,listOf #[.ref ta,.ref tb] ak)∈aa)(ia:(ta,bK #[.none,.ref va] c1)∈aa)(kZ:(tb,bK #[.none,.ref vb] c2)∈aa)(Va:cS W aa va a)(Vb:cS W aa vb c)(hx:(a==q "ANY")=false)(ret:∀W' ag F' v s',St ai ae L s' l ag→ee af gx.gw W aa F i di gl W' ag F' b cs us→lv ag v (gq cs us a c).isSome→R (.ok (.ret (.ref v))) s'):
  codeAny (model af gx.gw) A (.call (.ref 1127) ⟨[.ref i,.ref ac,ev],[]⟩) R s:=by
 refine xbI C S (fun g1 L1 s C S=>bo ?_)
 intro Kz Ez
 refine ec ?_
 intro Kz
 refine aX<|aY C S (vp _) ?_
 exists bQ S (am ah) ?_
 refine spliced_more ?_
 exists List_<|be S (fun bp s S=>cz S (fun bO s S=>?_))
 refine dm S aG (fun x3 s S fj=>dy C S<|AA (ps:=[(none,.ref va),(none,.ref vb)]) C S mH (mT dB) (.cons _ _ (.cons _ _ .nil)) (.cons ⟨ta,c1,.none,rfl,(mT ia),rfl⟩ (.cons ⟨tb,c2,.none,rfl,(mT kZ),rfl⟩ .nil)) aG xic xh7 aG (fun r vs vk aw s S ci=>?_))
 have ez:vs=#[.ref va,.ref vb]:=by
  apply Array.toList_inj.mp
  rw[ci]
  kernel_rfl
 subst ez
 refine aW S (fun s S=>ec ?_)
 intro Kz
 refine aX<|Attribute_any_<|aY C S (pW _) ?_
 exists aU S (aV ah) ?_
 refine bh C S ?_
 have Y1:=Sys.on S Y.up.app.up
 have Ju:=Sys.nd S Y1 mH (fun zz zz e=>by cases e)
 have G0:=cS.on S Va.up.app.up
 have G1:=cS.on S Vb.up.app.up
 refine uF C S Y1 (fun W1 e9 st mt t dc du s S P1 I1 T=>?_)
 have qv:=P1.k _ mH Ju
 replace Va:=G0.step P1.k Y1.iz P1.g
 replace Vb:=G1.step P1.k Y1.iz P1.g
 refine gU C S (pO _) I1.inst (aB ah) bA (fun s S=>aW S (fun s S=>ec ?_))
 intro Kz
 refine aX<|methodCall_KW ?_
 exists ap S ah ?_
 refine fw C S (BO _) T.i.inst (bj (bj (dP)))<|spliced_more<|aY C S (nQ _)<|spliced_more<|Subscript_ ?_
 exists ap S (am ah)<|bf S (fun ej s S=>?_)
 refine cL S qv (by decide) (by decide) (x:= .ref va) rfl ?_
 exists cz S (fun ed s S=>?_)
 refine bh C S<|cB Va fun z1 BA GU z2 z3=>ay z3 fun ly lw=>?_
 clear Va z3
 refine pe C S ly.inst lw.1 (fun s S=>spliced_more<|aY C S (nQ _)<|spliced_more<|Subscript_ ?_)
 exists ap S (am ah)<|bf S (fun mj s S=>?_)
 refine cL S qv (by decide) (by decide) (x:= .ref vb) rfl ?_
 exists cz S (fun ml s S=>?_)
 refine bh C S<|cB Vb fun z1 ivb xvb z2 z3=>ay z3 fun GZ GX=>?_
 clear Vb z3
 refine pe C S GZ.inst GX.1 (fun s S=>dy C S<|GG C S T hx (fun tq s S=>aW S (fun s S=>ec ?_)))
 intro Kz
 refine wpAny_Return_some<|aY C S (Be _)<|spliced_more<|wpAny_Compare1 ?_
 exists ap S ah ?_
 refine wpAny_Constant_none<|Pd<|dy C S<|GH C S (fun fx mD nK jt kQ kP fn s S nV fl=>?_)
 have FV:=lv.mk S nV
 refine aT S (fun S=>?_)
 exact ret W1 _ [dc,du] fx s S ((P1.pre fun zz h=>mT (mA (mT (h)))).up.up.up) FV
end
noncomputable def ph(cs:List (Str×CA))(x:Str):Bool:=match aM cs x with|some ca=>ca.mX|none=>false
section
theorem xiu{i di gl:Addr}{F:List Addr}{b:Bool}{cs:List (Str×CA)}{ac:Addr}{ak:Nat}{ta:Addr}{c1:Nat}{va:Addr}{a:Str}{ev:Value}(C:Cx gx aH A ae aE az L (dp+7) (un+21))(S:St ai ae L s l aa)(Y:Sys af gx.gw W aa i di gl F b cs us)(dB:(ac,listOf #[.ref ta] ak)∈aa)(ia:(ta,bK #[.none,.ref va] c1)∈aa)(Va:cS W aa va a)(ret:∀W' ag F' v s',St ai ae L s' l ag→ee af gx.gw W aa F i di gl W' ag F' b cs us→lv ag v (ph cs a)→R (.ok (.ret (.ref v))) s'):
  codeAny (model af gx.gw) A (.call (.ref 1115) ⟨[.ref i,.ref ac,ev],[]⟩) R s:=by
 refine xbG C S (fun g1 L1 s C S=>bo ?_)
 intro Kz Ez
 refine ec ?_
 intro Kz
 refine aX<|methodCall_KW<|Attribute_any_<|aY C S (pW _) ?_
 exists aU S (aB ah) ?_
 refine bh C S ?_
 have xey:=Sys.nd S Y dB (fun zz zz e=>by cases e)
 have xez:=Sys.nd S Y ia (fun zz zz e=>by cases e)
 have Y1:=Sys.on S Y
 have G0:=cS.on S Va
 refine uF C S Y1 (fun W1 e9 st mt t dc du s S P1 I1 T=>?_)
 replace Va:=G0.step P1.k Y1.iz P1.g
 have xen:=P1.k _ dB xey
 have xer:=P1.k _ ia xez
 refine gU C S (pO _) I1.inst (aB ah) bA (fun s S=>fw C S (S6 _) T.i.inst (bj (bj (dP)))<|spliced_more<|aY C S (nQ _)<|spliced_more<|Subscript_<|aY C S (vp _) ?_)
 exists bQ S (am ah) ?_
 refine spliced_more ?_
 exists List_<|cz S (fun bp s S=>?_)
 refine dm S aG (fun x2 s S dE=>dy C S<|AA (ps:=[(none,.ref va)]) C S mH (mT xen) (.cons _ _ .nil) (.cons ⟨ta,c1,.none,rfl,(mT xer),rfl⟩ .nil) aG xig xib aG (fun r vs vk aw s S ci=>?_))
 have ez:vs=#[.ref va]:=by
  apply Array.toList_inj.mp
  rw[ci]
  kernel_rfl
 subst ez
 exists bf S (fun fe s S=>?_)
 refine cL S mH (by decide) (by decide) (x:= .ref va) rfl ?_
 exists cz S (fun ej s S=>?_)
 refine bh C S<|cB Va fun z1 BA GU z2 z3=>ay z3 fun ly lw=>?_
 clear Va z3
 refine pe C S ly.up.app.up.inst (mT (mA (mT lw.1))) (fun s S=>dy C S<|VE C S T.up.app.up (fun cv s hc S=>?_))
 unfold GY at hc
 cases hl:aM cs a with
 |none=>
  rw[hl] at hc;dsimp only at hc;subst hc
  refine aW S (fun s S=>ec ?_)
  intro Kz
  refine wpAny_Return_some<|aY C S (Be _)<|spliced_more<|BoolOp_and<|wpAny_Compare1 ?_
  exists ap S ah ?_
  refine wpAny_Constant_none<|isnot_none_none ?_
  exists ei ?_
  refine dy C S<|GH C S (fun fx mD nK jt kQ kP fn s S nV fl=>?_)
  have FV:=lv.mk S nV
  refine aT S (fun S=>?_)
  have IQ:ph cs a=false:=by unfold ph;rw[hl]
  exact ret W1 _ [dc,du] fx s S P1.up.app.up.up.up.up (by rw[IQ];exact FV)
 |some ca=>
  rw[hl] at hc;dsimp only at hc
  refine eY hc fun c0 jR sl cl pr z1=>bB z1 fun z2 hI fY cV=>?_
  clear hc z1
  subst z2
  refine aW S (fun s S=>ec ?_)
  intro Kz
  refine wpAny_Return_some<|aY C S (Be _)<|spliced_more<|BoolOp_and<|wpAny_Compare1 ?_
  exists ap S ah ?_
  refine wpAny_Constant_none<|isnot_ref_none ?_
  exists gZ ?_
  refine BoolOp_one<|a9 C S ah (fB (jQ _) (Ao _) (Tr _) UK) hI.inst (am ah) Sc (fun s S=>dy C S<|GH C S (fun fx mD nK jt kQ kP fn s S nV fl=>?_))
  have FV:=lv.mk S nV
  refine aT S (fun S=>?_)
  have IQ:ph cs a=ca.mX:=by unfold ph;rw[hl]
  exact ret W1 _ [dc,du] fx s S P1.up.app.up.up.up.up (by rw[IQ];exact FV)
end
section
theorem me{b:Addr}{vs ws:Array Value}{n m:Nat}(S:St ai ae L s l aa)(ha:(a,listOf vs n)∈aa)(hb:(b,listOf ws m)∈aa)(hz:vs.size+ws.size≤sizeLine)(h:∀x s',St ai ae L s' l ((x,listOf (vs.toList++ws.toList).toArray 0)::aa)→(∀p∈aa,p.1<x)→Q (.ref x) s'):wpAny (model af w) A (binaryOp .Add (.ref a) (.ref b)) Q E s:=
 add_arrays S.F S.N (S.lst ha) (S.lst hb) (fun h' F' N'=>h _ _ (S.to F' N' (S.nd S.lt)) S.lt) hz
theorem Pg{value:Expr}{lower upper:Option Expr}{sp:Pos}(h:wpAny (model af w) A (eval value ev) (fun o aL=>wpAny (model af w) A (evalPart lower ev) (fun vl bb=>wpAny (model af w) A (evalPart upper ev) (fun vu bx=>
      ∃(a:Addr) (ba:Array Value) (n:Nat) (aa:List (Addr×Obj)) (l:List (Str×Value)) (lo hi:Option Int) (ai:Shared) (ae:Heap) (L:Addr),o= .ref a∧St ai ae L bx l aa∧(a,listOf ba n)∈aa∧ba.size≤sizeLine∧IsPart vl lo∧IsPart vu hi∧
      ∀x s',St ai ae L s' l ((x,listOf (slicePick ba lo hi none) 0)::aa)→Q (.ref x) s') E bb) E aL) E s)(ht:autoParam (∀o r,letTemporaryGo value o r=pure ()) ir):
  wpAny (model af w) A (eval (.Subscript value (.Slice lower upper none sp) aI) ev) Q E s:=by
 refine wpAny_Subscript_list_slice (wpAny_mono h (fun o aL dD=>wpAny_mono dD (fun vl bb dS=>wpAny_mono dS (fun vu bx cP=>?_) fun zz zz e=>e) fun zz zz e=>e) fun zz zz e=>e) ht
 refine V7 cP fun a ba n aa l lo hi ai ae L z1=>pk z1 fun z2 S hm hz p1 p2 k=>?_
 clear cP z1
 subst z2
 refine gJ (a:=a) (b:=ba) (c:=lo) (d:=hi) (nu rfl (S.lst hm) hz p1 p2 ?_)
 have S3:St ai ae L {bx with heap:=bx.heap.push {cls:= .type "slice",data:= .fields #[vl,vu,.none]}} l aa:=⟨S.F.push _,S.N.grown fun zz zz e=>Heap.get?_push_of_some _ e,S.D,by rw[S.R]⟩
 have S4:St ai ae L {bx with heap:=(bx.heap.push {cls:= .type "slice",data:= .fields #[vl,vu,.none]}).push {cls:= .type "list",data:= .seq (slicePick ba lo hi none)}} l
   (((bx.heap.push {cls:= .type "slice",data:= .fields #[vl,vu,.none]}).objs.size,listOf (slicePick ba lo hi none) 0)::aa):=
  ⟨S3.F.push _,S3.N.push S3.F _,S3.nd S3.lt,by rw[S.R]⟩
 have:=k _ _ S4
 rw[Heap.size_push] at this
 exact this
end
theorem pc{l l':List (Addr×Obj)}(h:∀f:Addr×Obj→Bool,l.countP f=l'.countP f):l.Perm l':=by
 classical
 rw[List.perm_iff_count]
 intro a
 exact h _
local macro_rules |`(tactic|walk_at "me")=>`(tactic|first|exact List.Mem.head _|(refine List.Mem.tail _ ?_;walk_at "me")|(refine List.mem_append_left _ ?_;walk_at "me")|(refine List.mem_append_right _ ?_;walk_at "me"))
theorem wb{x a b c d:Addr×Obj}{r:List (Addr×Obj)}:(x::a::b::c::d::r).Perm (a::b::c::d::x::r):=pc fun f=>by simp only[List.countP_cons];ac_rfl
theorem S9{x a b c d e:Addr×Obj}{r:List (Addr×Obj)}:(x::a::b::c::d::e::r).Perm (a::b::c::d::e::x::r):=pc fun f=>by simp only[List.countP_cons];ac_rfl
theorem pq1{b c d e g:Addr×Obj}{s r:List (Addr×Obj)}:(g::(s++b::c::d::e::r)).Perm (e::d::g::((s++[b,c])++r)):=pc fun f=>by simp only[List.countP_append,List.countP_cons,List.countP_nil];ac_rfl
theorem pq2{a b:Addr×Obj}{s r:List (Addr×Obj)}:(s++a::b::r).Perm (a::b::(s++r)):=pc fun f=>by simp only[List.countP_append,List.countP_cons];ac_rfl
theorem pq6{a b c:Addr×Obj}{e t r:List (Addr×Obj)}:(a::b::c::(e++(t++r))).Perm (b::a::c::((e++t)++r)):=pc fun f=>by simp only[List.countP_append,List.countP_cons];ac_rfl
theorem Good.gj{cs us x}:∀(n i:Nat) (aK:List (Str×Int)),Good cs us x aK→Good cs us x (gj cs us n i aK)
 |0,_,_,G=>G
 |n+1,i,aK,G=>by
  unfold Mine.gj
  split
  ·exact Good.gj n _ _ (G.fold _ _ fun p hp=>Gk hp)
  ·exact G
theorem xh1{cs us x}:Good cs us x (jJ cs us x):=Good.gj _ _ _ Good.one
theorem xjg{cs us}(z:Small cs us):(dn cs us x).length≤20000:=by
 have h1:=(xh1 (cs:=cs) (us:=us) (x:=x)).len
 have h2:=VY z x
 unfold dn
 rw[List.length_tail,List.length_append]
 simp;exact xgr h1 h2
noncomputable def fO(cs:List (Str×CA))(p:Str×Int):Bool:=match aM cs p.1 with|some ca=> !ca.mX|none=>false
noncomputable def lm(cs:List (Str×CA))(us:List (Str×List Str))(x:Str):Bool:=((x,0)::dn cs us x).any (fO cs)
noncomputable def f0(bit:Bool):List (Str×Str):=if bit=true then [(q "s",q "numeric")] else []
def jq(aD:List (Str×Value))(bit:Bool):Prop:=(bit=false→aD=[])∧(valueAt aD (q "s")).isSome=bit∧aD.length≤1
theorem jq.nil:jq [] false:=⟨fun zz=>rfl,rfl,by simp⟩
theorem jq.put:jq (stored [] (q "s") v) true:=⟨(fun h=>by cases h),by rw[AH];simp,by simp[stored]⟩
theorem VP{α:Type}{f:α→Bool}{l:List α}{i:Nat}{a:α}(h:l[i]?=some a):(l.take (i+1)).any f=((l.take i).any f||f a):=by
 rw[take_snoc h,List.any_append];simp
theorem cZ.Qo{vs ws:List Value}{rs Vi:List (Str×Int)}(h:cZ aa vs rs)(h':cZ aa ws Vi):cZ aa (vs++ws) (rs++Vi):=by
 induction h with
 |nil=>exact h'
 |cons a _ ih=>exact .cons a ih
section
theorem Pu{t dc du:Addr}{cs:List (Str×CA)}{tk:Tok}(C:Cx gx aH A ae aE az L (dp+6) (un+18))(S:St ai ae L s l aa)(T:Tab af gx.gw W aa t dc du cs us)(hx:(x==q "ANY")=false)(hD:(aM cs x).isSome=true→∀p∈dn cs us x,(aM cs p.1).isSome=true∨nI.any (·==p.1)=false)(ret:∀r vs n aw s',St ai ae L s' l ((r,listOf vs n)::(aw++aa))→db aw vs.toList (f0 (lm cs us x))→R (.ok (.ret (.ref r))) s'):
  codeAny (model af gx.gw) A (.call (.ref 406) ⟨[.ref t,.str x tk],[]⟩) R s:=by
 refine xcj C S (fun g1 L1 s C S=>bo ?_)
 intro Kz Ez
 refine ec ?_
 intro Kz
 refine aX ?_
 exists List_ ?_
 refine cF S aG (fun x1 s S eA=>aW S (fun s S=>ec ?_))
 intro Kz
 refine aX<|i5 C S (fun d2 s S ld2 ji=>aW S (fun s S=>?_))
 have ji:=ji
 refine ec ?_
 intro Kz
 refine cD ?_
 exists wpAny_BinOp<|List_ ?_
 refine spliced_more ?_
 exists Tuple_<|bQ S (aB ah) ?_
 refine spliced_more ?_
 exists bf S (fun cu s S=>?_)
 refine spliced_none<|ea S aG (fun x4 s S i2=>cF S aG (fun x5 s S lx5=>methodCall_KW ?_))
 exists ap S (aV ah) ?_
 refine fw C S (Jp _) T.up.up.up.up.i.inst (bj (bj (dP))) ?_
 exists aU S (aB ah) ?_
 refine bh C S<|Pt C S T.up.up.up.up hx (fun sr eh sn io s S cy=>?_)
 have fh:=bX (cy.len)
 have cV:=xjg T.z (x:=x)
 refine me S (mT (mA mH)) mH (by rw[sizeLine_eq];simp;exact xgs fh cV) (fun al s S lal=>?_)
 refine dg C.hh S mH (fun Ix oi s S hO W=>?_)
 have kU:cZ ((sr,listOf eh sn)::(io++[(x5,listOf #[Value.ref x4] 0),(x4,bK #[Value.str x tk,Value.int 0 cu] 0)])) ((#[Value.ref x4].toList++eh.toList).toArray).toList ((x,0)::dn cs us x):=cZ.Qo (.cons (mT (List.mem_append_right _ (mT mH))) .nil) (cy.mono fun zz h=>mT (List.mem_append_left _ h))
 have S:=St.perm (ag:=(Ix,oi)::(al,listOf ((#[Value.ref x4].toList++eh.toList).toArray) 0)::(x1,listOf #[] 0)::(d2,emptyDict)::(((sr,listOf eh sn)::(io++[(x5,listOf #[Value.ref x4] 0),(x4,bK #[Value.str x tk,Value.int 0 cu] 0)]))++aa)) S (.cons _ (.cons _ pq1))
 refine dF W S hO (fun i l' ag=>(l'.lookup (q "self")=some (.ref t)∧l'.lookup (q "name")=some (.str x tk)∧l'.lookup (q "found")=some (.ref x1)∧l'.lookup (q "seen")=some (.ref d2))∧∃fv fn o aD ce,ag=(((al,listOf ((#[Value.ref x4].toList++eh.toList).toArray) 0)::(x1,listOf fv fn)::(d2,o)::(ce++(((sr,listOf eh sn)::(io++[(x5,listOf #[Value.ref x4] 0),(x4,bK #[Value.str x tk,Value.int 0 cu] 0)]))++aa))):List (Addr×Obj))∧db ce fv.toList (f0 ((((x,0)::dn cs us x).take i).any (fO cs)))∧o.IsDictOf (PySem.strKind af gx.gw) aD∧jq aD ((((x,0)::dn cs us x).take i).any (fO cs))) ⟨⟨(aV ah),(aB ah),(am ah),ah⟩,#[],_,_,[],[],rfl,.nil,lB,jq.nil⟩ (fun zz zz zz hJ=>by obtain⟨_,_,_,_,_,_,rfl,_⟩:=hJ;exact mH) (fun i vv s l' ag it hi hv hJ S=>?_) (fun s l' ag hJ S=>?_)
 ·intro Kz Ez
  refine ay hJ fun z1 z2=>bB z1 fun hS hN hF c8=>eY z2 fun fv fn o aD ce z3=>bB z3 fun z4 bq dJ eo=>?_
  clear hJ z1 z2 z3
  refine xS1 z4 S fun S=>?_
  refine f9 (kU.get (i:=i) (by simpa using hv)) fun t1 one k jK gX kA z1=>aO z1 fun z2 dC dR=>?_
  clear z1
  subst z2
  have qa:=VP (f:=fO cs) dC
  generalize (((x,0)::dn cs us x).take i).any (fO cs)=bit at bq eo qa
  exists dG S ?_
  intro lz dz S
  refine nl C.hh S rfl (ch (mA (List.mem_append_left _ dR))) (fun s S=>ec ?_)
  intro Kz
  refine br ?_
  exists ap S (am ah) ?_
  refine a9 C S (aB hS) (lD _) T.app.app.up.up.up.up.i.inst (am ah) bA (fun s S=>nj S T.app.app.up.up.up.up.c (fun s S=>?_))
  exists bV (fun c0=>?_) (fun c0=>?_)
  ·obtain⟨ca,j3⟩:=Option.isSome_iff_exists.mp c0
   refine ec ?_
   intro Kz
   refine aX<|Attribute_any_<|Subscript_<|a9 C S (aB hS) (lD _) T.app.app.up.up.up.up.i.inst (am ah) bA (fun s S=>?_)
   exists ap S (am ah) ?_
   refine i6 S T.c.app.app.up.up.up.up j3 (fun v s hp S=>eY hp fun cc jR sl cl pr z1=>bB z1 fun z2 hI fY Bt=>?_)
   clear hp z1
   subst z2
   refine gU C S (RU _) hI.app.app.up.up.up.up.inst (bR ah) bA (fun s S=>aW S (fun s S=>wpAny_execs_nil ?_))
   cases hU:ca.mX with
   |true=>
    rw[hU] at Bt;obtain⟨rn,lR⟩:=Bt
    refine ec ?_
    intro Kz
    refine cD ?_
    exists ap S ah ?_
    refine dg C.hh S (ch (mA (mA lR.1))) (fun Iy oj s S eP W2=>?_)
    refine dF W2 S eP (fun j l' ag=>(l'.lookup (q "self")=some (.ref t)∧l'.lookup (q "name")=some (.str x tk)∧l'.lookup (q "found")=some (.ref x1)∧l'.lookup (q "seen")=some (.ref d2)∧l'.lookup (q "rows")=some (.ref sl))∧∃fv fn o aD ce,ag=(it::((al,listOf ((#[Value.ref x4].toList++eh.toList).toArray) 0)::(x1,listOf fv fn)::(d2,o)::(ce++(((sr,listOf eh sn)::(io++[(x5,listOf #[Value.ref x4] 0),(x4,bK #[Value.str x tk,Value.int 0 cu] 0)]))++aa))):List (Addr×Obj))∧db ce fv.toList (f0 (bit||decide (0<j)))∧o.IsDictOf (PySem.strKind af gx.gw) aD∧jq aD (bit||decide (0<j))) ⟨⟨(aV hS),(aV hN),(aV hF),(aV c8),ah⟩,fv,fn,o,aD,ce,rfl,by simpa using bq,dJ,by simpa using eo⟩ (fun zz zz zz hJ=>by obtain⟨_,_,_,_,_,_,rfl,_⟩:=hJ;exact(ch (mA (mA lR.1)))) (fun j mq s l' ag i0 hj ez hJ S=>?_) (fun s l' ag hJ S=>?_)
    ·intro Kz Ez
     exists dG S ?_
     intro lz dz S
     exact absurd hj (by simp)
    refine ay hJ fun z1 z2=>eJ z1 fun hS hN hF c8 nS=>eY z2 fun fv fn o aD ce z3=>bB z3 fun z4 bq dJ eo=>?_
    clear hJ z1 z2 z3
    refine Wq z4 S fun S=>?_
    refine wpAny_execs_nil ?_
    have eQ:(bit||decide (0<((#[]:Array Value)).size))=(bit||fO cs (one,k)):=by unfold fO;simp only;rw[j3];simp[hU]
    rw[eQ,←qa] at bq eo
    refine aN (aR S (bW hS hN hF c8) (iy (e:=ce) (bW rfl bq dJ eo)))
   |false=>
    rw[hU] at Bt;obtain⟨rn,tp,AE,uI,AD,lR,ql⟩:=Bt
    refine ec ?_
    intro Kz
    refine cD ?_
    exists ap S ah ?_
    refine dg C.hh S (ch (mA (mA lR.1))) (fun Iy oj s S eP W2=>?_)
    refine dF W2 S eP (fun j l' ag=>(l'.lookup (q "self")=some (.ref t)∧l'.lookup (q "name")=some (.str x tk)∧l'.lookup (q "found")=some (.ref x1)∧l'.lookup (q "seen")=some (.ref d2)∧l'.lookup (q "rows")=some (.ref sl))∧∃fv fn o aD ce,ag=(it::((al,listOf ((#[Value.ref x4].toList++eh.toList).toArray) 0)::(x1,listOf fv fn)::(d2,o)::(ce++(((sr,listOf eh sn)::(io++[(x5,listOf #[Value.ref x4] 0),(x4,bK #[Value.str x tk,Value.int 0 cu] 0)]))++aa))):List (Addr×Obj))∧db ce fv.toList (f0 (bit||decide (0<j)))∧o.IsDictOf (PySem.strKind af gx.gw) aD∧jq aD (bit||decide (0<j))) ⟨⟨(aV hS),(aV hN),(aV hF),(aV c8),ah⟩,fv,fn,o,aD,ce,rfl,by simpa using bq,dJ,by simpa using eo⟩ (fun zz zz zz hJ=>by obtain⟨_,_,_,_,_,_,rfl,_⟩:=hJ;exact(ch (mA (mA lR.1)))) (fun j mq s l' ag i0 hj ez hJ S=>?_) (fun s l' ag hJ S=>?_)
    ·intro Kz Ez
     refine ay hJ fun z1 z2=>eJ z1 fun hS hN hF c8 nS=>eY z2 fun fv fn o aD ce z3=>bB z3 fun z4 bq dJ eo=>?_
     clear hJ z1 z2 z3
     refine xS1 z4 S fun S=>?_
     obtain rfl:j=0:=by simp at hj;exact Gi hj
     obtain rfl:mq= .ref tp:=by simpa using ez.symm
     have e0:(bit||decide (0<0))=bit:=by simp
     rw[e0] at bq eo
     exists dG S ?_
     intro lz dz S
     refine nl C.hh S rfl (eg (mA (mA ql.1))) (fun s S=>ec ?_)
     intro Kz
     refine br ?_
     exists ap S (am ah)<|ap S (aB c8) ?_
     refine uq S (ch mH) dJ ji (fun s S=>?_)
     exists bV (fun c1=>?_) (fun c1=>?_)
     ·have hb:bit=false:=by rw[eo.2.1] at c1;simpa using c1
      subst hb
      obtain rfl:=eo.1 rfl
      have Ij:fv=#[]:=by have:=bq.len;unfold f0 at this;simpa using this
      subst Ij
      refine ec ?_
      intro Kz
      refine wpAny_Assign_Subscript ?_
      exists wpAny_Constant_bool<|ap S (aB c8)<|ap S (am ah) ?_
      refine jn S (fun zz=>(Up.tail (Up.tail (Up.tail (Up.tail Up.head))))) dJ (Nat.zero_le _) (fun o2 s fg S=>ec ?_)
      intro Kz
      refine wpAny_Expr<|methodCall_KW ?_
      exists ap S (aB hF) ?_
      refine ft S (b5 mH) ?_
      exists Tuple_<|bQ S (am ah)<|aU S ah ?_
      refine ea S aG (fun x6 s S lx6=>fb S (Up.tail (Up.tail (Up.tail (Up.tail Up.head)))) (Nat.zero_le _) (fun s S=>wpAny_execs_nil<|wpAny_execs_nil ?_))
      have S:=St.perm (ag:=i0::it::((al,listOf ((#[Value.ref x4].toList++eh.toList).toArray) 0)::(x1,listOf (#[].push (.ref x6)) (fn+1))::(d2,o2)::(((x6,_)::ce)++(((sr,listOf eh sn)::(io++[(x5,listOf #[Value.ref x4] 0),(x4,bK #[Value.str x tk,Value.int 0 cu] 0)]))++aa)))) S S9
      refine aN (aR S (iL (aB hS) (aB hN) (aB hF) (aB c8) (aB nS)) (iy (e:=((x6,_)::ce)) (bW rfl ?_ fg ?_)))
      ·exact .cons mH .nil
      exact jq.put
     ·have hb:bit=true:=by rw[eo.2.1] at c1;simpa using c1
      subst hb
      refine wpAny_execs_nil<|wpAny_execs_nil<|aN (aR S (iL (aB hS) (aB hN) (aB hF) (aB c8) (aB nS)) (iy (e:=ce) (bW rfl bq dJ eo)))
    refine ay hJ fun z1 z2=>eJ z1 fun hS hN hF c8 nS=>eY z2 fun fv fn o aD ce z3=>bB z3 fun z4 bq dJ eo=>?_
    clear hJ z1 z2 z3
    refine Wq z4 S fun S=>?_
    refine wpAny_execs_nil ?_
    have eQ:(bit||decide (0<(#[Value.ref tp]).size))=(bit||fO cs (one,k)):=by unfold fO;simp only;rw[j3];simp[hU]
    rw[eQ,←qa] at bq eo
    refine aN (aR S (bW hS hN hF c8) (iy (e:=ce) (bW rfl bq dJ eo)))
  ·have j3:aM cs one=none:=by cases e:aM cs one<;>simp[e] at c0 ⊢
   have hU:True:=trivial
   refine ec ?_
   intro Kz
   refine wpAny_If<|isTrue_and<|wpAny_isTrue_Compare1 ?_
   exists ap S ah<|bf S (fun ed s S=>PyProof.Rows.gt_int<|bV (fun c1=>?_) (fun c1=>?_))
   ·refine isTrue_and<|wpAny_isTrue_Compare1 ?_
    exists ap S (am ah) ?_
    refine O6 C S (RX _)<|VD C S (fun x7 vx7 s S ix7 lU nx7=>?_)
    exists in_tuple_strs (St.tup S mH) ix7 ?_
    replace S:=St.drop S
    exists bV (fun c2=>?_) (fun c2=>?_)
    ·refine isTrue_and<|wpAny_isTrue_Compare1 ?_
     exists ap S (aB hN) ?_
     refine a9 C S (aB hS) (lD _) T.app.app.up.up.up.up.i.inst (am ah) bA (fun s S=>nj S T.app.app.up.up.up.up.c (fun s S=>?_))
     exists wpAny_truthy_bool ?_
     have hnc:(aM cs x).isSome=false:=by
      cases e:(aM cs x).isSome
      ·rfl
      ·have hm:=List.mem_of_getElem? dC
       rcases List.mem_cons.mp hm with e2|hm
       ·cases e2;rw[j3] at e;cases e
       ·rcases hD e _ hm with z|z
        ·simp only at z;rw[j3] at z;cases z
        ·simp only at z;rw[c2] at z;cases z
     refine b7 hnc ?_
     exists cJ ?_
     refine ec ?_
     intro Kz
     refine aX ?_
     exists List_ ?_
     refine cF S aG (fun x8 s S lx8=>aW S (fun s S=>wpAny_execs_nil<|wpAny_execs_nil<|ec ?_))
     intro Kz
     refine cD ?_
     exists ap S ah ?_
     refine dg C.hh S mH (fun Iy oj s S eP W2=>?_)
     refine dF W2 S eP (fun j l' ag=>(l'.lookup (q "self")=some (.ref t)∧l'.lookup (q "name")=some (.str x tk)∧l'.lookup (q "found")=some (.ref x1)∧l'.lookup (q "seen")=some (.ref d2)∧l'.lookup (q "rows")=some (.ref x8))∧∃fv fn o aD ce,ag=((x8,listOf #[] 0)::it::((al,listOf ((#[Value.ref x4].toList++eh.toList).toArray) 0)::(x1,listOf fv fn)::(d2,o)::(ce++(((sr,listOf eh sn)::(io++[(x5,listOf #[Value.ref x4] 0),(x4,bK #[Value.str x tk,Value.int 0 cu] 0)]))++aa))):List (Addr×Obj))∧db ce fv.toList (f0 (bit||decide (0<j)))∧o.IsDictOf (PySem.strKind af gx.gw) aD∧jq aD (bit||decide (0<j))) ⟨⟨(aV hS),(aV hN),(aV hF),(aV c8),ah⟩,fv,fn,o,aD,ce,rfl,by simpa using bq,dJ,by simpa using eo⟩ (fun zz zz zz hJ=>by obtain⟨_,_,_,_,_,_,rfl,_⟩:=hJ;exact mH) (fun j mq s l' ag i0 hj ez hJ S=>?_) (fun s l' ag hJ S=>?_)
     ·intro Kz Ez
      exists dG S ?_
      intro lz dz S
      exact absurd hj (by simp)
     refine ay hJ fun z1 z2=>eJ z1 fun hS hN hF c8 nS=>eY z2 fun fv fn o aD ce z3=>bB z3 fun z4 bq dJ eo=>?_
     clear hJ z1 z2 z3
     refine Wq z4 S fun S=>?_
     refine wpAny_execs_nil ?_
     have eQ:(bit||decide (0<((#[]:Array Value)).size))=(bit||fO cs (one,k)):=by unfold fO;simp only;rw[j3];simp[hU]
     rw[eQ,←qa] at bq eo
     have S:=St.perm (ag:=it::((al,listOf ((#[Value.ref x4].toList++eh.toList).toArray) 0)::(x1,listOf fv fn)::(d2,o)::(((x8,_)::ce)++(((sr,listOf eh sn)::(io++[(x5,listOf #[Value.ref x4] 0),(x4,bK #[Value.str x tk,Value.int 0 cu] 0)]))++aa)))) S wb
     refine aN (aR S (bW hS hN hF c8) (iy (e:=((_,_)::ce)) (bW rfl bq.up dJ eo)))
    ·exists cJ ?_
     refine ec ?_
     intro Kz
     refine aX ?_
     exists List_ ?_
     refine cF S aG (fun x8 s S lx8=>aW S (fun s S=>wpAny_execs_nil<|wpAny_execs_nil<|ec ?_))
     intro Kz
     refine cD ?_
     exists ap S ah ?_
     refine dg C.hh S mH (fun Iy oj s S eP W2=>?_)
     refine dF W2 S eP (fun j l' ag=>(l'.lookup (q "self")=some (.ref t)∧l'.lookup (q "name")=some (.str x tk)∧l'.lookup (q "found")=some (.ref x1)∧l'.lookup (q "seen")=some (.ref d2)∧l'.lookup (q "rows")=some (.ref x8))∧∃fv fn o aD ce,ag=((x8,listOf #[] 0)::it::((al,listOf ((#[Value.ref x4].toList++eh.toList).toArray) 0)::(x1,listOf fv fn)::(d2,o)::(ce++(((sr,listOf eh sn)::(io++[(x5,listOf #[Value.ref x4] 0),(x4,bK #[Value.str x tk,Value.int 0 cu] 0)]))++aa))):List (Addr×Obj))∧db ce fv.toList (f0 (bit||decide (0<j)))∧o.IsDictOf (PySem.strKind af gx.gw) aD∧jq aD (bit||decide (0<j))) ⟨⟨(aV hS),(aV hN),(aV hF),(aV c8),ah⟩,fv,fn,o,aD,ce,rfl,by simpa using bq,dJ,by simpa using eo⟩ (fun zz zz zz hJ=>by obtain⟨_,_,_,_,_,_,rfl,_⟩:=hJ;exact mH) (fun j mq s l' ag i0 hj ez hJ S=>?_) (fun s l' ag hJ S=>?_)
     ·intro Kz Ez
      exists dG S ?_
      intro lz dz S
      exact absurd hj (by simp)
     refine ay hJ fun z1 z2=>eJ z1 fun hS hN hF c8 nS=>eY z2 fun fv fn o aD ce z3=>bB z3 fun z4 bq dJ eo=>?_
     clear hJ z1 z2 z3
     refine Wq z4 S fun S=>?_
     refine wpAny_execs_nil ?_
     have eQ:(bit||decide (0<((#[]:Array Value)).size))=(bit||fO cs (one,k)):=by unfold fO;simp only;rw[j3];simp[hU]
     rw[eQ,←qa] at bq eo
     have S:=St.perm (ag:=it::((al,listOf ((#[Value.ref x4].toList++eh.toList).toArray) 0)::(x1,listOf fv fn)::(d2,o)::(((x8,_)::ce)++(((sr,listOf eh sn)::(io++[(x5,listOf #[Value.ref x4] 0),(x4,bK #[Value.str x tk,Value.int 0 cu] 0)]))++aa)))) S wb
     refine aN (aR S (bW hS hN hF c8) (iy (e:=((_,_)::ce)) (bW rfl bq.up dJ eo)))
   ·exists cJ ?_
    refine ec ?_
    intro Kz
    refine aX ?_
    exists List_ ?_
    refine cF S aG (fun x7 s S lU=>aW S (fun s S=>wpAny_execs_nil<|wpAny_execs_nil<|ec ?_))
    intro Kz
    refine cD ?_
    exists ap S ah ?_
    refine dg C.hh S mH (fun Iy oj s S eP W2=>?_)
    refine dF W2 S eP (fun j l' ag=>(l'.lookup (q "self")=some (.ref t)∧l'.lookup (q "name")=some (.str x tk)∧l'.lookup (q "found")=some (.ref x1)∧l'.lookup (q "seen")=some (.ref d2)∧l'.lookup (q "rows")=some (.ref x7))∧∃fv fn o aD ce,ag=((x7,listOf #[] 0)::it::((al,listOf ((#[Value.ref x4].toList++eh.toList).toArray) 0)::(x1,listOf fv fn)::(d2,o)::(ce++(((sr,listOf eh sn)::(io++[(x5,listOf #[Value.ref x4] 0),(x4,bK #[Value.str x tk,Value.int 0 cu] 0)]))++aa))):List (Addr×Obj))∧db ce fv.toList (f0 (bit||decide (0<j)))∧o.IsDictOf (PySem.strKind af gx.gw) aD∧jq aD (bit||decide (0<j))) ⟨⟨(aV hS),(aV hN),(aV hF),(aV c8),ah⟩,fv,fn,o,aD,ce,rfl,by simpa using bq,dJ,by simpa using eo⟩ (fun zz zz zz hJ=>by obtain⟨_,_,_,_,_,_,rfl,_⟩:=hJ;exact mH) (fun j mq s l' ag i0 hj ez hJ S=>?_) (fun s l' ag hJ S=>?_)
    ·intro Kz Ez
     exists dG S ?_
     intro lz dz S
     exact absurd hj (by simp)
    refine ay hJ fun z1 z2=>eJ z1 fun hS hN hF c8 nS=>eY z2 fun fv fn o aD ce z3=>bB z3 fun z4 bq dJ eo=>?_
    clear hJ z1 z2 z3
    refine Wq z4 S fun S=>?_
    refine wpAny_execs_nil ?_
    have eQ:(bit||decide (0<((#[]:Array Value)).size))=(bit||fO cs (one,k)):=by unfold fO;simp only;rw[j3];simp[hU]
    rw[eQ,←qa] at bq eo
    have S:=St.perm (ag:=it::((al,listOf ((#[Value.ref x4].toList++eh.toList).toArray) 0)::(x1,listOf fv fn)::(d2,o)::(((x7,_)::ce)++(((sr,listOf eh sn)::(io++[(x5,listOf #[Value.ref x4] 0),(x4,bK #[Value.str x tk,Value.int 0 cu] 0)]))++aa)))) S wb
    refine aN (aR S (bW hS hN hF c8) (iy (e:=((_,_)::ce)) (bW rfl bq.up dJ eo)))
 refine ay hJ fun z1 z2=>bB z1 fun hS hN hF c8=>eY z2 fun fv fn o aD ce z3=>bB z3 fun z4 bq dJ eo=>?_
 clear hJ z1 z2 z3
 refine Wq z4 S fun S=>?_
 have hz:=bX (kU.len)
 rw[List.take_of_length_le (by exact fK hz)] at bq
 refine ec ?_
 intro Kz
 refine wpAny_Return_some ?_
 exists ap S hF ?_
 refine aT S (fun S=>?_)
 exact ret x1 fv fn ([(al,_),(d2,o)]++(ce++((sr,listOf eh sn)::(io++[(x5,listOf #[Value.ref x4] 0),(x4,bK #[Value.str x tk,Value.int 0 cu] 0)])))) s (S.perm pq6) (bq.mono fun zz h=>mA (List.mem_append_left _ h))
end
def WK(aa:List (Addr×Obj))(v:Addr)(xs:List Str):Prop:=∃tk it ms k,Inst aa v 487 (cN (q "character") tk (.ref it) .none)∧(it,listOf ms k)∈aa∧StrsAre ms.toList xs
section
theorem xit{ac ta va:Addr}{ak c1:Nat}{tn:Tok}(C:Cx gx aH A ae aE az L (dp+1) (un+3))(S:St ai ae L s l aa)(dB:(ac,listOf #[.ref ta] ak)∈aa)(ia:(ta,bK #[.none,.ref va] c1)∈aa)(ret:∀t v aw s',St ai ae L s' l ((t,bK #[.ref va,v] 0)::(aw++aa))→R (.ok (.ret (.ref t))) s'):
  codeAny (model af gx.gw) A (.call (.ref 1108) ⟨[.ref ac,.str nm tn],[]⟩) R s:=by
 refine xbF C S (fun g1 L1 s C S=>bo ?_)
 intro Kz Ez
 refine ec ?_
 intro Kz
 refine cD<|fS C S (jf _) ja<|spliced_more<|eU C S (eO _) eL ?_
 exists aU S (am ah) ?_
 refine eV S dB aG (fun tq s S=>spliced_none<|jm S (fun r1 VZ V5 s S Jh=>?_))
 refine jl C.hh S mH (Int.natCast_nonneg _) (by show((1:Nat):Int)<_;decide) (fun Iy0 oj0 s S HY W0=>?_)
 refine dF W0 S HY (fun j l' ag=>(l'.lookup (q "args")=some (.ref ac)∧l'.lookup (q "name")=some (.str nm tn))∧ag=((r1,_)::aa:List (Addr×Obj))) ⟨⟨(am ah),ah⟩,rfl⟩ (fun zz zz zz zz=>trivial) (fun j vv s l' ag it hj hv hJ S=>?_) (fun s l' ag hJ S=>?_)
 ·intro Kz Ez
  obtain⟨tp,rfl⟩:=hv
  obtain⟨⟨hA,hN⟩,rfl⟩:=hJ
  obtain rfl:j=0:=by simp at hj;exact Gi hj
  exists dG S ?_
  intro lz dz S
  refine eu S (fun s S=>ec ?_)
  intro Kz
  refine br<|Subscript_<|Subscript_ ?_
  exists ap S (am hA)<|ap S ah ?_
  refine cL S (bc dB) (by decide) (by decide) (x:= .ref ta) rfl ?_
  exists bf S (fun bO s S=>?_)
  refine li S (bc ia) (by decide) (by decide) (x:= .none) rfl ?_
  exists ap S (am hN) ?_
  refine EqNone.eq_none_str ?_
  exists ei ?_
  refine wpAny_execs_nil<|wpAny_execs_nil<|aN (aR S (bC (am hA) (am hN)) rfl)
 obtain⟨⟨hA,hN⟩,rfl⟩:=hJ
 replace S:=S.drop
 refine ec ?_
 intro Kz
 refine cD<|fS C S (jf _) ja<|spliced_more<|eU C S (eO _) eL ?_
 exists aU S hA ?_
 refine eV S dB aG (fun tq s S=>spliced_none<|jm S (fun r2 V0 V6 s S Ji=>?_))
 refine jl C.hh S mH (Int.natCast_nonneg _) (by show((1:Nat):Int)<_;decide) (fun Iy1 oj1 s S jW W1=>?_)
 refine dF W1 S jW (fun j l' ag=>j=0∧(l'.lookup (q "args")=some (.ref ac)∧l'.lookup (q "name")=some (.str nm tn))∧ag=((r2,_)::aa:List (Addr×Obj))) ⟨rfl,⟨hA,hN⟩,rfl⟩ (fun zz zz zz zz=>trivial) (fun j vv s l' ag it hj hv hJ S=>?_) (fun s l' ag hJ S=>?_)
 ·intro Kz Ez
  obtain⟨tp,rfl⟩:=hv
  refine aO hJ fun z1 z2 z3=>ay z2 fun hA hN=>?_
  clear hJ z2
  refine xS1 z3 S fun S=>?_
  obtain rfl:j=0:=by simp at hj;exact Gi hj
  exists dG S ?_
  intro lz dz S
  refine eu S (fun s S=>ec ?_)
  intro Kz
  refine wpAny_If<|isTrue_or<|wpAny_isTrue_Compare1<|Subscript_<|Subscript_ ?_
  exists ap S (am hA)<|ap S ah ?_
  refine cL S (bc dB) (by decide) (by decide) (x:= .ref ta) rfl ?_
  exists bf S (fun cu s S=>?_)
  refine li S (bc ia) (by decide) (by decide) (x:= .none) rfl<|wpAny_Constant_none<|is_none_none ?_
  exists gZ<|er ?_
  refine ec ?_
  intro Kz
  refine wpAny_Return_some ?_
  exists Tuple_ ?_
  refine spliced_more<|Subscript_<|Subscript_ ?_
  exists ap S (am hA)<|ap S ah ?_
  refine cL S (bc dB) (by decide) (by decide) (x:= .ref ta) rfl ?_
  exists bf S (fun fe s S=>?_)
  refine li S (bc ia) (by decide) (by decide) (x:= .ref va) rfl<|spliced_more ?_
  exists wpAny_BinOp ?_
  refine Pg ?_
  exists ap S (am hA) ?_
  refine evalPart_none_step<|evalPart_some_step ?_
  exists ap S ah ?_
  refine PW (a:=ac) (f:=none) (g:=some _) (pq rfl S (bc dB) aG .none (.int _ _) (fun sl1 s S=>Pg ?_))
  exists ap S (am hA) ?_
  refine evalPart_some_step ?_
  exists wpAny_BinOp<|ap S ah<|bf S (fun ej s S=>?_)
  refine At S (fun tq s S=>evalPart_none_step<|PW (a:=ac) (f:=some _) (g:=none) (pq rfl S (b5 dB) aG (.int _ _) .none (fun Vt s S=>?_)))
  refine me S (mT mH) mH (by have h1:=slicePick_size_le #[.ref ta] none (some ((0:Nat):Int)) none;have h2:=slicePick_size_le #[.ref ta] (some (((0:Nat):Int)+1)) none none;rw[sizeLine_eq];simp only[List.size_toArray,List.length_cons,List.length_nil] at h1 h2;exact xgt h1 h2) (fun sl3 s S zz=>?_)
  refine spliced_none<|ea S aG (fun t9 s S l9=>aT S (fun S=>?_))
  exact ret t9 _ [(sl3,_),(Vt,_),(sl1,_),it,(r2,_)] s S
 exact absurd hJ.1 (by simp)
end
theorem xjf{vs:List Value}{xs:List Str}(h:cR (fun x v=>∃t,v= .str x t) vs xs):StrsAre vs xs:=by
 induction h with
 |nil=>exact .nil
 |cons p _ ih=>obtain⟨t,rfl⟩:=p;exact .cons _ _ ih
section
theorem xix{i di gl:Addr}{F:List Addr}{b:Bool}{cs:List (Str×CA)}{va:Addr}{a:Str}(C:Cx gx aH A ae aE az L (dp+8) (un+24))(S:St ai ae L s l aa)(Y:Sys af gx.gw W aa i di gl F b cs us)(Va:cS W aa va a)(hx:(a==q "ANY")=false)(hD:(aM cs a).isSome=true→∀p∈dn cs us a,(aM cs p.1).isSome=true∨nI.any (·==p.1)=false)(ret:∀W' ag F' r vs n aw s',St ai ae L s' l ((r,listOf vs n)::(aw++ag))→ee af gx.gw W aa F i di gl W' ag F' b cs us→db aw vs.toList (f0 (lm cs us a))→R (.ok (.ret (.ref r))) s'):
  codeAny (model af gx.gw) A (.call (.ref 1134) ⟨[.ref i,.ref va],[]⟩) R s:=by
 refine xbJ C S (fun g1 L1 s C S=>bo ?_)
 intro Kz Ez
 have Qe:=Va
 refine cB Qe fun vk vit vtx vn z1=>ay z1 fun Iv Fv=>?_
 clear Qe z1
 refine ec ?_
 intro Kz
 refine aX<|IfExp_<|wpAny_isTrue_Compare1<|a9 C S ah (eC _) Iv.inst (bR ah) ds (fun s S=>?_)
 exists bZ S (fun bp s S=>?_)
 refine b7 nk<|aY C S (nQ _) ?_
 exists bQ S ah<|cz S (fun bO s S=>?_)
 refine bh C S<|cB Va fun z1 BA GU z2 z3=>ay z3 fun ly lw=>?_
 clear Va z3
 refine pe C S ly.inst lw.1 (fun s S=>aW S (fun s S=>ec ?_))
 intro Kz
 refine wpAny_Return_some<|methodCall_KW<|Attribute_any_<|aY C S (pW _) ?_
 exists aU S (aB ah) ?_
 refine bh C S ?_
 have Y1:=Sys.on S Y
 refine uF C S Y1 (fun W1 e9 st mt t dc du s S P1 I1 T=>gU C S (pO _) I1.inst (aB ah) bA (fun s S=>fw C S (Jo _) T.i.inst (bj (bj (dP))) ?_))
 exists aU S ah ?_
 refine bh C S<|Pu C S T hx hD (fun r vs n aw s S bq=>aT S (fun S=>?_))
 exact ret W1 e9 [dc,du] r vs n aw s S P1 bq
theorem xiy{i di gl:Addr}{F:List Addr}{b:Bool}{cs:List (Str×CA)}{ac:Addr}{ak:Nat}{ta:Addr}{c1:Nat}{va:Addr}{a:Str}{ev:Value}(C:Cx gx aH A ae aE az L (dp+9) (un+27))(S:St ai ae L s l aa)(Y:Sys af gx.gw W aa i di gl F b cs us)(dB:(ac,listOf #[.ref ta] ak)∈aa)(ia:(ta,bK #[.none,.ref va] c1)∈aa)(Va:cS W aa va a)(hx:(a==q "ANY")=false)(hD:(aM cs a).isSome=true→∀p∈dn cs us a,(aM cs p.1).isSome=true∨nI.any (·==p.1)=false)(ret:∀W' ag F' v s',St ai ae L s' l ag→ee af gx.gw W aa F i di gl W' ag F' b cs us→WK ag v ((f0 (lm cs us a)).map (·.1))→R (.ok (.ret (.ref v))) s'):
  codeAny (model af gx.gw) A (.call (.ref 1139) ⟨[.ref i,.ref ac,ev],[]⟩) R s:=by
 refine xbK C S (fun g1 L1 s C S=>bo ?_)
 intro Kz Ez
 refine ec ?_
 intro Kz
 refine wpAny_Return_some<|aY C S (xc6 _)<|spliced_more<|Au (uX (by kernel_rfl)) (lb (by kernel_rfl)) (namesOk (by kernel_rfl)) ?_ (gz:=rfl)
 refine aY C S (xdj _) ?_
 exists bQ S (aB ah) ?_
 refine spliced_more<|Subscript_<|aY C S (xdk _) ?_
 exists bQ S (am ah)<|cz S (fun bp s S=>?_)
 refine bh C S<|xit C S dB ia (fun t9 sv Rz s S=>?_)
 exists bf S (fun bO s S=>?_)
 refine li S mH (by decide) (by decide) (x:= .ref va) rfl<|dy C S<|xix C S Y.app.up Va.app.up hx hD (fun W1 e9 F1 r vs n aw s S P1 bq=>?_)
 have dQ:=bX (bq.len)
 have cV:(f0 (lm cs us a)).length≤1:=by unfold f0;split<;>simp
 have hrz:vs.size≤sizeLine:=by rw[sizeLine_eq];exact xgv dQ cV
 refine dg C.hh S mH (fun Ix oi s S hO W2=>?_)
 refine AL (b:=L1) (e:=Ix) (k:=(fun i ys ag=>ag=((r,listOf vs n)::(aw++e9):List (Addr×Obj))∧cR (fun x v=>∃t,v= .str x t) ys (((f0 (lm cs us a)).map (·.1)).take i))) (pt rfl W2 S hO hrz ⟨rfl,.nil⟩ (fun zz zz zz hJ=>by obtain⟨rfl,_⟩:=hJ;exact mH) (fun i v s lc ys k D Cn oL ag it EE hi hv hJ hL jx lI S=>?_) (fun D ys k ag s hJ S=>?_))
 ·obtain⟨rfl,dh⟩:=hJ
  refine f9 (bq.get (i:=i) (by simpa using hv)) fun tr x1 y1 jK gX kA z1=>aO z1 fun z2 dC dR=>?_
  clear z1
  subst z2
  have IE:((f0 (lm cs us a)).map (·.1))[i]?=some x1:=by rw[List.getElem?_map,dC];rfl
  refine mf S rfl (fun s S=>?_) (hk:=rfl) (hl:=(by kernel_rfl))
  refine wpAny_tests_nil<|er<|Subscript_<|lj S rfl ah ?_ (hk:=rfl) (hl:=(by kernel_rfl))
  exists bf S (fun cu s S=>?_)
  refine li S (ch (List.mem_append_left _ dR)) (by decide) (by decide) (x:= .str x1 jK) rfl ?_
  exact eK (bW S hL rfl (by rw[take_snoc IE];exact dh.snoc ⟨_,rfl⟩))
 obtain⟨rfl,dh⟩:=hJ
 rw[List.take_of_length_le (by rw[List.length_map];exact fK dQ)] at dh
 have ib:=dh.len
 rw[List.length_map] at ib
 refine dy C S ?_
 refine xi1 (ms:=ys.toArray) C S mH (by rw[List.size_toArray,sizeLine_eq];exact xgu cV ib) (fun x dx od it tk nn s S hA l1=>?_)
 refine aT S (fun S=>?_)
 exact ret W1 _ F1 x s S ((P1.pre fun zz h=>mT (mA (h))).app.up.up.up.up.up) ⟨tk,it,ys.toArray,nn,⟨_,_,mH,mT mH,hA⟩,mT (mT mH),xjf (by simpa using dh)⟩
end
noncomputable def ip(f:List Str)(x:Str):List Str:=if (x !=q "double")&& !(f.any (·==x)) then f++[x] else f
theorem PG{f:List Str}(h1:(x !=q "double")=true)(h2:(!(f.any (·==x)))=true):ip f x=f++[x]:=by unfold ip;rw[h1,h2];rfl
theorem PE{f:List Str}(h1:(x !=q "double")=false):ip f x=f:=by unfold ip;rw[h1];rfl
theorem PF{f:List Str}(h2:(!(f.any (·==x)))=false):ip f x=f:=by unfold ip;rw[h2,Bool.and_false];rfl
theorem A7:∀(l f:List Str),(l.foldl ip f).length≤f.length+l.length
 |[],f=>by simp
 |x::r,f=>by
  have:=A7 r (ip f x)
  have h:(ip f x).length≤f.length+1:=by unfold ip;split<;>simp
  simp;exact Ut this h
section
theorem VI{v it:Addr}{av:Value}{b8:Tok}(C:Cx gx aH A ae aE az L (dp+1) (un+3))(S:St ai ae L s l aa)(I:Inst aa v 487 (cN (q "integer") b8 (.ref it) av))(ret:∀t s',St ai ae L s' l aa→R (.ok (.ret (.str (q "integer") t))) s'):codeAny (model af gx.gw) A (.call (.ref 73) ⟨[.ref v],[]⟩) R s:=by
 refine Hq C S (fun g1 L1 s C S=>bo ?_)
 intro Kz Ez
 refine ec ?_
 intro Kz
 refine aX<|a9 C S ah (eC _) I (bR ah) ds (fun s S=>aW S (fun s S=>ec ?_))
 intro Kz
 refine br ?_
 exists ap S ah<|bZ S (fun bp s S=>?_)
 refine b7 nk<|wpAny_execs_nil<|ec ?_
 intro Kz
 refine br ?_
 exists ap S ah<|bZ S (fun bO s S=>?_)
 refine b7 nk<|wpAny_execs_nil<|ec ?_
 intro Kz
 refine br ?_
 exists ap S ah<|bZ S (fun cu s S=>?_)
 refine b7 nk<|wpAny_execs_nil<|ec ?_
 intro Kz
 refine wpAny_If ?_
 exists isTrue_or ?_
 refine wpAny_isTrue_Compare1 ?_
 exists ap S ah<|bZ S (fun fe s S=>?_)
 refine b7 nk ?_
 exists isTrue_or ?_
 refine wpAny_isTrue_Compare1 ?_
 exists ap S ah<|bZ S (fun ej s S=>?_)
 refine b7 nk ?_
 exists isTrue_or ?_
 refine wpAny_isTrue_Compare1 ?_
 exists ap S ah<|bZ S (fun ed s S=>?_)
 refine b7 nk ?_
 exists isTrue_or_nil<|cJ ?_
 refine wpAny_execs_nil<|ec ?_
 intro Kz
 refine wpAny_Return_some ?_
 exists ap S ah ?_
 refine aT S (fun S=>?_)
 exact ret _ s S
theorem xi5{v it:Addr}{av:Value}{b8:Tok}(C:Cx gx aH A ae aE az L (dp+4) (un+12))(S:St ai ae L s l aa)(I:Inst aa v 487 (cN (q "integer") b8 (.ref it) av))(hn:cK af gx.gw aa (q "dim") av)(ret:∀x vs n aw s',St ai ae L s' l ((x,listOf vs n)::(aw++aa))→StrsAre vs.toList [q "integer",q "numeric"]→R (.ok (.ret (.ref x))) s'):
  codeAny (model af gx.gw) A (.call (.ref 80) ⟨[.ref v],[]⟩) R s:=by
 refine Hr C S (fun g1 L1 s C S=>bo ?_)
 intro Kz Ez
 refine ec ?_
 intro Kz
 refine aX<|aY C S (vo _) ?_
 exists aU S ah ?_
 refine bh C S<|VI C S I (fun bp s S=>aW S (fun s S=>ec ?_))
 intro Kz
 refine aX ?_
 exists wpAny_BinOp ?_
 refine aY C S (pX _) ?_
 exists aU S (am ah) ?_
 refine bh C S<|uE C S I hn (fun x2 s S dE=>?_)
 exists List_<|aU S ah ?_
 refine dm S aG (fun x3 s S fj=>me S (mT mH) mH aG (fun x4 s S i2=>aW S (fun s S=>ec ?_)))
 intro Kz
 refine wpAny_If ?_
 exists isTrue_or ?_
 refine wpAny_isTrue_Compare1<|a9 C S (aB ah) (eC _) I.up.up.up (bR ah) ds (fun s S=>?_)
 exists bZ S (fun ej s S=>?_)
 refine oB AV ?_
 exists er ?_
 refine ec ?_
 intro Kz
 refine wpAny_Expr<|methodCall_KW ?_
 exists ap S ah ?_
 refine ft S mH ?_
 exists bE S (fun ed s S=>?_)
 refine fb S Up.head aG (fun s S=>wpAny_execs_nil<|ec ?_)
 intro Kz
 refine wpAny_Return_some ?_
 exists ap S ah ?_
 refine aT S (fun S=>ret x4 _ _ [_,_] s S (.cons _ _ (.cons _ _ .nil)))
theorem xi8{v it:Addr}{av:Value}{b8:Tok}(C:Cx gx aH A ae aE az L (dp+4) (un+12))(S:St ai ae L s l aa)(I:Inst aa v 487 (cN (q "integer") b8 (.ref it) av))(hn:cK af gx.gw aa (q "dim") av)(hc:cK af gx.gw aa (q "class") av)(ret:∀x vs n aw s',St ai ae L s' l ((x,listOf vs n)::(aw++aa))→StrsAre vs.toList [q "integer"]→R (.ok (.ret (.ref x))) s'):
  codeAny (model af gx.gw) A (.call (.ref 87) ⟨[.ref v],[]⟩) R s:=by
 refine Hs C S (fun g1 L1 s C S=>bo ?_)
 intro Kz Ez
 refine ec ?_
 intro Kz
 refine aX<|aY C S (HJ _) ?_
 exists aU S ah ?_
 refine bh C S<|Px C S I hc (fun x1 s S eA=>aW S (fun s S=>ec ?_))
 intro Kz
 refine br<|eU C S (eO _) eL ?_
 exists aU S ah ?_
 refine eV S mH (Nat.zero_le _) (fun tq s S=>?_)
 exists bf S (fun bO s S=>PyProof.Rows.gt_int ?_)
 refine gY rfl<|wpAny_execs_nil<|ec ?_
 intro Kz
 refine aX<|aY C S (pX _) ?_
 exists aU S (am ah) ?_
 refine bh C S<|uE C S I.up hn.up (fun x3 s S fj=>aW S (fun s S=>ec ?_))
 intro Kz
 refine br<|eU C S (eO _) eL ?_
 exists aU S ah ?_
 refine eV S mH (Nat.zero_le _) (fun tq s S=>?_)
 exists bf S (fun fe s S=>PyProof.Rows.gt_int ?_)
 refine gY rfl<|wpAny_execs_nil<|ec ?_
 intro Kz
 refine wpAny_Return_some<|IfExp_<|wpAny_isTrue_Compare1<|a9 C S (aB ah) (eC _) I.up.up (bR ah) ds (fun s S=>?_)
 exists bZ S (fun ej s S=>?_)
 refine b7 nk ?_
 exists List_ ?_
 refine spliced_more<|aY C S (vo _) ?_
 exists aU S (aB ah) ?_
 refine bh C S<|VI C S I.up.up (fun ed s S=>cF S aG (fun x7 s S lU=>aT S (fun S=>ret x7 _ _ [_,_] s S (.cons _ _ .nil))))
theorem xiX{v it:Addr}{av:Value}{b8:Tok}(C:Cx gx aH A ae aE az L (dp+5) (un+15))(S:St ai ae L s l aa)(I:Inst aa v 487 (cN (q "integer") b8 (.ref it) av))(hn:cK af gx.gw aa (q "dim") av)(hc:cK af gx.gw aa (q "class") av)(ret:∀x vs n aw s',St ai ae L s' l ((x,listOf vs n)::(aw++aa))→StrsAre vs.toList [q "integer",q "numeric"]→R (.ok (.ret (.ref x))) s'):
  codeAny (model af gx.gw) A (.call (.ref 427) ⟨[.ref v],[]⟩) R s:=by
 refine A3 C S (fun g1 L1 s C S=>bo ?_)
 intro Kz Ez
 refine ec ?_
 intro Kz
 refine br<|a9 C S ah (eC _) I (bR ah) ds (fun s S=>?_)
 exists bZ S (fun bp s S=>?_)
 refine b7 nk<|wpAny_execs_nil<|ec ?_
 intro Kz
 refine aX<|aY C S (HL _) ?_
 exists aU S ah ?_
 refine bh C S<|xi8 C S I hn hc (fun x2 uJ wl mC s S k7=>aW S (fun s S=>ec ?_))
 intro Kz
 refine cD<|aY C S (HN _) ?_
 exists aU S (am ah) ?_
 refine bh C S<|xi5 C S I.app.up hn.app.up (fun x3 nt oM ve s S j9=>dg C.hh S mH (fun Ix oi s S hO W=>?_))
 refine dF W S hO (fun i l' ag=>l'.lookup (q "rows")=some (.ref x2)∧∃vs n,ag=((x3,listOf nt oM)::(ve++((x2,listOf vs n)::(mC++aa))):List (Addr×Obj))∧StrsAre vs.toList (([q "integer",q "numeric"].take i).foldl ip [q "integer"])) ⟨ah,uJ,wl,rfl,k7⟩ (fun zz zz zz hJ=>by obtain⟨_,_,_,rfl,_⟩:=hJ;exact mH) (fun i vv s l' ag it hi hv hJ S=>?_) (fun s l' ag hJ S=>?_)
 ·intro Kz Ez
  refine ay hJ fun hR z1=>aP z1 fun vs n z2=>ay z2 fun z3 ci=>?_
  clear hJ z1 z2
  refine xS1 z3 S fun S=>?_
  refine aP (eW j9 (i:=i) (by simpa using hv)) fun one to z1=>ay z1 fun z2 iD=>?_
  clear z1
  subst z2
  have eR:=A7 ([q "integer",q "numeric"].take i) [q "integer"]
  have j6:=cG ci;rw[Array.length_toList] at j6
  have lS:vs.size≤sizeLine:=by rw[sizeLine_eq];simp at eR;exact Uu j6 eR
  exists dG S ?_
  intro lz dz S
  refine eu S (fun s S=>ec ?_)
  intro Kz
  refine wpAny_If<|isTrue_and<|wpAny_isTrue_Compare1 ?_
  exists ap S ah<|bE S (fun fe s S=>km<|bV (fun c0=>?_) (fun c0=>?_))
  ·refine isTrue_and<|wpAny_isTrue_Compare1 ?_
   exists ap S ah<|ap S (am hR)<|notin_list_strs (St.lst S (bc (mA mH))) ci<|bV (fun c1=>?_) (fun c1=>?_)
   ·exists isTrue_and_nil<|er ?_
    refine ec ?_
    intro Kz
    refine wpAny_Expr<|methodCall_KW ?_
    exists ap S (am hR) ?_
    refine ft S (bc (mA mH)) ?_
    exists ap S ah ?_
    refine fb S (Up.tail (Up.tail (Up.app Up.head))) lS (fun s S=>wpAny_execs_nil<|wpAny_execs_nil<|aN (aR S (am hR) (aN (bC rfl ?_))))
    rw[dq _ _ iD,PG c0 c1];exact pf ci
   ·exists cJ ?_
    refine wpAny_execs_nil<|wpAny_execs_nil<|aN (aR S (am hR) (aN (a:=vs) (b:=n) (bC rfl ?_)))
    rw[dq _ _ iD,PF c1];exact ci
  ·exists cJ ?_
   refine wpAny_execs_nil<|wpAny_execs_nil<|aN (aR S (am hR) (aN (a:=vs) (b:=n) (bC rfl ?_)))
   rw[dq _ _ iD,PE c0];exact ci
 refine ay hJ fun hR z1=>aP z1 fun vs n z2=>ay z2 fun z3 ci=>?_
 clear hJ z1 z2
 refine Wq z3 S fun S=>?_
 have hl:=cG j9;rw[Array.length_toList] at hl
 rw[List.take_of_length_le (by exact fK hl)] at ci
 rw[show[q "integer",q "numeric"].foldl ip [q "integer"]=[q "integer",q "numeric"] by kernel_rfl] at ci
 refine ec ?_
 intro Kz
 refine wpAny_Return_some ?_
 exists ap S hR ?_
 refine aT S (fun S=>?_)
 exact ret x2 vs n mC s (S.sub (.cons _ (List.sublist_append_right _ _))) ci
theorem xi2{v it:Addr}{av:Value}{b8:Tok}(C:Cx gx aH A ae aE az L (dp+1) (un+3))(S:St ai ae L s l aa)(I:Inst aa v 487 (cN (q "double") b8 (.ref it) av))(ret:∀t s',St ai ae L s' l aa→R (.ok (.ret (.str (q "double") t))) s'):codeAny (model af gx.gw) A (.call (.ref 73) ⟨[.ref v],[]⟩) R s:=by
 refine Hq C S (fun g1 L1 s C S=>bo ?_)
 intro Kz Ez
 refine ec ?_
 intro Kz
 refine aX<|a9 C S ah (eC _) I (bR ah) ds (fun s S=>aW S (fun s S=>ec ?_))
 intro Kz
 refine br ?_
 exists ap S ah<|bZ S (fun bp s S=>?_)
 refine b7 nk<|wpAny_execs_nil<|ec ?_
 intro Kz
 refine br ?_
 exists ap S ah<|bZ S (fun bO s S=>?_)
 refine b7 nk<|wpAny_execs_nil<|ec ?_
 intro Kz
 refine br ?_
 exists ap S ah<|bZ S (fun cu s S=>?_)
 refine b7 nk<|wpAny_execs_nil<|ec ?_
 intro Kz
 refine wpAny_If ?_
 exists isTrue_or ?_
 refine wpAny_isTrue_Compare1 ?_
 exists ap S ah<|bZ S (fun fe s S=>?_)
 refine b7 nk ?_
 exists isTrue_or ?_
 refine wpAny_isTrue_Compare1 ?_
 exists ap S ah<|bZ S (fun ej s S=>?_)
 refine b7 nk ?_
 exists isTrue_or ?_
 refine wpAny_isTrue_Compare1 ?_
 exists ap S ah<|bZ S (fun ed s S=>?_)
 refine b7 nk ?_
 exists isTrue_or_nil<|cJ ?_
 refine wpAny_execs_nil<|ec ?_
 intro Kz
 refine wpAny_Return_some ?_
 exists ap S ah ?_
 refine aT S (fun S=>?_)
 exact ret _ s S
theorem xi4{v it:Addr}{av:Value}{b8:Tok}(C:Cx gx aH A ae aE az L (dp+4) (un+12))(S:St ai ae L s l aa)(I:Inst aa v 487 (cN (q "double") b8 (.ref it) av))(hn:cK af gx.gw aa (q "dim") av)(ret:∀x vs n aw s',St ai ae L s' l ((x,listOf vs n)::(aw++aa))→StrsAre vs.toList [q "double",q "numeric"]→R (.ok (.ret (.ref x))) s'):
  codeAny (model af gx.gw) A (.call (.ref 80) ⟨[.ref v],[]⟩) R s:=by
 refine Hr C S (fun g1 L1 s C S=>bo ?_)
 intro Kz Ez
 refine ec ?_
 intro Kz
 refine aX<|aY C S (vo _) ?_
 exists aU S ah ?_
 refine bh C S<|xi2 C S I (fun bp s S=>aW S (fun s S=>ec ?_))
 intro Kz
 refine aX ?_
 exists wpAny_BinOp ?_
 refine aY C S (pX _) ?_
 exists aU S (am ah) ?_
 refine bh C S<|uE C S I hn (fun x2 s S dE=>?_)
 exists List_<|aU S ah ?_
 refine dm S aG (fun x3 s S fj=>me S (mT mH) mH aG (fun x4 s S i2=>aW S (fun s S=>ec ?_)))
 intro Kz
 refine wpAny_If ?_
 exists isTrue_or ?_
 refine wpAny_isTrue_Compare1<|a9 C S (aB ah) (eC _) I.up.up.up (bR ah) ds (fun s S=>?_)
 exists bZ S (fun ej s S=>?_)
 refine b7 nk ?_
 exists isTrue_or ?_
 refine wpAny_isTrue_Compare1<|a9 C S (aB ah) (eC _) I.up.up.up (bR ah) ds (fun s S=>?_)
 exists bZ S (fun ed s S=>?_)
 refine oB AV ?_
 exists er ?_
 refine ec ?_
 intro Kz
 refine wpAny_Expr<|methodCall_KW ?_
 exists ap S ah ?_
 refine ft S mH ?_
 exists bE S (fun mj s S=>?_)
 refine fb S Up.head aG (fun s S=>wpAny_execs_nil<|ec ?_)
 intro Kz
 refine wpAny_Return_some ?_
 exists ap S ah ?_
 refine aT S (fun S=>ret x4 _ _ [_,_] s S (.cons _ _ (.cons _ _ .nil)))
theorem xi7{v it:Addr}{av:Value}{b8:Tok}(C:Cx gx aH A ae aE az L (dp+4) (un+12))(S:St ai ae L s l aa)(I:Inst aa v 487 (cN (q "double") b8 (.ref it) av))(hn:cK af gx.gw aa (q "dim") av)(hc:cK af gx.gw aa (q "class") av)(ret:∀x vs n aw s',St ai ae L s' l ((x,listOf vs n)::(aw++aa))→StrsAre vs.toList [q "numeric"]→R (.ok (.ret (.ref x))) s'):
  codeAny (model af gx.gw) A (.call (.ref 87) ⟨[.ref v],[]⟩) R s:=by
 refine Hs C S (fun g1 L1 s C S=>bo ?_)
 intro Kz Ez
 refine ec ?_
 intro Kz
 refine aX<|aY C S (HJ _) ?_
 exists aU S ah ?_
 refine bh C S<|Px C S I hc (fun x1 s S eA=>aW S (fun s S=>ec ?_))
 intro Kz
 refine br<|eU C S (eO _) eL ?_
 exists aU S ah ?_
 refine eV S mH (Nat.zero_le _) (fun tq s S=>?_)
 exists bf S (fun bO s S=>PyProof.Rows.gt_int ?_)
 refine gY rfl<|wpAny_execs_nil<|ec ?_
 intro Kz
 refine aX<|aY C S (pX _) ?_
 exists aU S (am ah) ?_
 refine bh C S<|uE C S I.up hn.up (fun x3 s S fj=>aW S (fun s S=>ec ?_))
 intro Kz
 refine br<|eU C S (eO _) eL ?_
 exists aU S ah ?_
 refine eV S mH (Nat.zero_le _) (fun tq s S=>?_)
 exists bf S (fun fe s S=>PyProof.Rows.gt_int ?_)
 refine gY rfl<|wpAny_execs_nil<|ec ?_
 intro Kz
 refine wpAny_Return_some<|IfExp_<|wpAny_isTrue_Compare1<|a9 C S (aB ah) (eC _) I.up.up (bR ah) ds (fun s S=>?_)
 exists bZ S (fun ej s S=>?_)
 refine oB AV ?_
 exists List_<|cz S (fun ed s S=>?_)
 refine dm S aG (fun x7 s S lU=>aT S (fun S=>ret x7 _ _ [_,_] s S (.cons _ _ .nil)))
theorem xiW{v it:Addr}{av:Value}{b8:Tok}(C:Cx gx aH A ae aE az L (dp+5) (un+15))(S:St ai ae L s l aa)(I:Inst aa v 487 (cN (q "double") b8 (.ref it) av))(hn:cK af gx.gw aa (q "dim") av)(hc:cK af gx.gw aa (q "class") av)(ret:∀x vs n aw s',St ai ae L s' l ((x,listOf vs n)::(aw++aa))→StrsAre vs.toList [q "numeric"]→R (.ok (.ret (.ref x))) s'):
  codeAny (model af gx.gw) A (.call (.ref 427) ⟨[.ref v],[]⟩) R s:=by
 refine A3 C S (fun g1 L1 s C S=>bo ?_)
 intro Kz Ez
 refine ec ?_
 intro Kz
 refine br<|a9 C S ah (eC _) I (bR ah) ds (fun s S=>?_)
 exists bZ S (fun bp s S=>?_)
 refine b7 nk<|wpAny_execs_nil<|ec ?_
 intro Kz
 refine aX<|aY C S (HL _) ?_
 exists aU S ah ?_
 refine bh C S<|xi7 C S I hn hc (fun x2 uJ wl mC s S k7=>aW S (fun s S=>ec ?_))
 intro Kz
 refine cD<|aY C S (HN _) ?_
 exists aU S (am ah) ?_
 refine bh C S<|xi4 C S I.app.up hn.app.up (fun x3 nt oM ve s S j9=>dg C.hh S mH (fun Ix oi s S hO W=>?_))
 refine dF W S hO (fun i l' ag=>l'.lookup (q "rows")=some (.ref x2)∧∃vs n,ag=((x3,listOf nt oM)::(ve++((x2,listOf vs n)::(mC++aa))):List (Addr×Obj))∧StrsAre vs.toList (([q "double",q "numeric"].take i).foldl ip [q "numeric"])) ⟨ah,uJ,wl,rfl,k7⟩ (fun zz zz zz hJ=>by obtain⟨_,_,_,rfl,_⟩:=hJ;exact mH) (fun i vv s l' ag it hi hv hJ S=>?_) (fun s l' ag hJ S=>?_)
 ·intro Kz Ez
  refine ay hJ fun hR z1=>aP z1 fun vs n z2=>ay z2 fun z3 ci=>?_
  clear hJ z1 z2
  refine xS1 z3 S fun S=>?_
  refine aP (eW j9 (i:=i) (by simpa using hv)) fun one to z1=>ay z1 fun z2 iD=>?_
  clear z1
  subst z2
  have eR:=A7 ([q "double",q "numeric"].take i) [q "numeric"]
  have j6:=cG ci;rw[Array.length_toList] at j6
  have lS:vs.size≤sizeLine:=by rw[sizeLine_eq];simp at eR;exact Uu j6 eR
  exists dG S ?_
  intro lz dz S
  refine eu S (fun s S=>ec ?_)
  intro Kz
  refine wpAny_If<|isTrue_and<|wpAny_isTrue_Compare1 ?_
  exists ap S ah<|bE S (fun fe s S=>km<|bV (fun c0=>?_) (fun c0=>?_))
  ·refine isTrue_and<|wpAny_isTrue_Compare1 ?_
   exists ap S ah<|ap S (am hR)<|notin_list_strs (St.lst S (bc (mA mH))) ci<|bV (fun c1=>?_) (fun c1=>?_)
   ·exists isTrue_and_nil<|er ?_
    refine ec ?_
    intro Kz
    refine wpAny_Expr<|methodCall_KW ?_
    exists ap S (am hR) ?_
    refine ft S (bc (mA mH)) ?_
    exists ap S ah ?_
    refine fb S (Up.tail (Up.tail (Up.app Up.head))) lS (fun s S=>wpAny_execs_nil<|wpAny_execs_nil<|aN (aR S (am hR) (aN (bC rfl ?_))))
    rw[dq _ _ iD,PG c0 c1];exact pf ci
   ·exists cJ ?_
    refine wpAny_execs_nil<|wpAny_execs_nil<|aN (aR S (am hR) (aN (a:=vs) (b:=n) (bC rfl ?_)))
    rw[dq _ _ iD,PF c1];exact ci
  ·exists cJ ?_
   refine wpAny_execs_nil<|wpAny_execs_nil<|aN (aR S (am hR) (aN (a:=vs) (b:=n) (bC rfl ?_)))
   rw[dq _ _ iD,PE c0];exact ci
 refine ay hJ fun hR z1=>aP z1 fun vs n z2=>ay z2 fun z3 ci=>?_
 clear hJ z1 z2
 refine Wq z3 S fun S=>?_
 have hl:=cG j9;rw[Array.length_toList] at hl
 rw[List.take_of_length_le (by exact fK hl)] at ci
 rw[show[q "double",q "numeric"].foldl ip [q "numeric"]=[q "numeric"] by kernel_rfl] at ci
 refine ec ?_
 intro Kz
 refine wpAny_Return_some ?_
 exists ap S hR ?_
 refine aT S (fun S=>?_)
 exact ret x2 vs n mC s (S.sub (.cons _ (List.sublist_append_right _ _))) ci
theorem VH{v it:Addr}{av:Value}{b8:Tok}(C:Cx gx aH A ae aE az L (dp+1) (un+3))(S:St ai ae L s l aa)(I:Inst aa v 487 (cN (q "character") b8 (.ref it) av))(ret:∀t s',St ai ae L s' l aa→R (.ok (.ret (.str (q "character") t))) s'):codeAny (model af gx.gw) A (.call (.ref 73) ⟨[.ref v],[]⟩) R s:=by
 refine Hq C S (fun g1 L1 s C S=>bo ?_)
 intro Kz Ez
 refine ec ?_
 intro Kz
 refine aX<|a9 C S ah (eC _) I (bR ah) ds (fun s S=>aW S (fun s S=>ec ?_))
 intro Kz
 refine br ?_
 exists ap S ah<|bZ S (fun bp s S=>?_)
 refine b7 nk<|wpAny_execs_nil<|ec ?_
 intro Kz
 refine br ?_
 exists ap S ah<|bZ S (fun bO s S=>?_)
 refine b7 nk<|wpAny_execs_nil<|ec ?_
 intro Kz
 refine br ?_
 exists ap S ah<|bZ S (fun cu s S=>?_)
 refine b7 nk<|wpAny_execs_nil<|ec ?_
 intro Kz
 refine wpAny_If ?_
 exists isTrue_or ?_
 refine wpAny_isTrue_Compare1 ?_
 exists ap S ah<|bZ S (fun fe s S=>?_)
 refine b7 nk ?_
 exists isTrue_or ?_
 refine wpAny_isTrue_Compare1 ?_
 exists ap S ah<|bZ S (fun ej s S=>?_)
 refine b7 nk ?_
 exists isTrue_or ?_
 refine wpAny_isTrue_Compare1 ?_
 exists ap S ah<|bZ S (fun ed s S=>?_)
 refine b7 nk ?_
 exists isTrue_or_nil<|cJ ?_
 refine wpAny_execs_nil<|ec ?_
 intro Kz
 refine wpAny_Return_some ?_
 exists ap S ah ?_
 refine aT S (fun S=>?_)
 exact ret _ s S
theorem xi3{v it:Addr}{av:Value}{b8:Tok}(C:Cx gx aH A ae aE az L (dp+4) (un+12))(S:St ai ae L s l aa)(I:Inst aa v 487 (cN (q "character") b8 (.ref it) av))(hn:cK af gx.gw aa (q "dim") av)(ret:∀x vs n aw s',St ai ae L s' l ((x,listOf vs n)::(aw++aa))→StrsAre vs.toList [q "character"]→R (.ok (.ret (.ref x))) s'):
  codeAny (model af gx.gw) A (.call (.ref 80) ⟨[.ref v],[]⟩) R s:=by
 refine Hr C S (fun g1 L1 s C S=>bo ?_)
 intro Kz Ez
 refine ec ?_
 intro Kz
 refine aX<|aY C S (vo _) ?_
 exists aU S ah ?_
 refine bh C S<|VH C S I (fun bp s S=>aW S (fun s S=>ec ?_))
 intro Kz
 refine aX ?_
 exists wpAny_BinOp ?_
 refine aY C S (pX _) ?_
 exists aU S (am ah) ?_
 refine bh C S<|uE C S I hn (fun x2 s S dE=>?_)
 exists List_<|aU S ah ?_
 refine dm S aG (fun x3 s S fj=>me S (mT mH) mH aG (fun x4 s S i2=>aW S (fun s S=>ec ?_)))
 intro Kz
 refine wpAny_If ?_
 exists isTrue_or ?_
 refine wpAny_isTrue_Compare1<|a9 C S (aB ah) (eC _) I.up.up.up (bR ah) ds (fun s S=>?_)
 exists bZ S (fun ej s S=>?_)
 refine b7 nk ?_
 exists isTrue_or ?_
 refine wpAny_isTrue_Compare1<|a9 C S (aB ah) (eC _) I.up.up.up (bR ah) ds (fun s S=>?_)
 exists bZ S (fun ed s S=>?_)
 refine b7 nk ?_
 exists isTrue_or_nil<|cJ ?_
 refine wpAny_execs_nil<|ec ?_
 intro Kz
 refine wpAny_Return_some ?_
 exists ap S ah ?_
 refine aT S (fun S=>ret x4 _ _ [_,_] s S (.cons _ _ .nil))
theorem xi6{v it:Addr}{av:Value}{b8:Tok}(C:Cx gx aH A ae aE az L (dp+4) (un+12))(S:St ai ae L s l aa)(I:Inst aa v 487 (cN (q "character") b8 (.ref it) av))(hn:cK af gx.gw aa (q "dim") av)(hc:cK af gx.gw aa (q "class") av)(ret:∀x vs n aw s',St ai ae L s' l ((x,listOf vs n)::(aw++aa))→StrsAre vs.toList [q "character"]→R (.ok (.ret (.ref x))) s'):
  codeAny (model af gx.gw) A (.call (.ref 87) ⟨[.ref v],[]⟩) R s:=by
 refine Hs C S (fun g1 L1 s C S=>bo ?_)
 intro Kz Ez
 refine ec ?_
 intro Kz
 refine aX<|aY C S (HJ _) ?_
 exists aU S ah ?_
 refine bh C S<|Px C S I hc (fun x1 s S eA=>aW S (fun s S=>ec ?_))
 intro Kz
 refine br<|eU C S (eO _) eL ?_
 exists aU S ah ?_
 refine eV S mH (Nat.zero_le _) (fun tq s S=>?_)
 exists bf S (fun bO s S=>PyProof.Rows.gt_int ?_)
 refine gY rfl<|wpAny_execs_nil<|ec ?_
 intro Kz
 refine aX<|aY C S (pX _) ?_
 exists aU S (am ah) ?_
 refine bh C S<|uE C S I.up hn.up (fun x3 s S fj=>aW S (fun s S=>ec ?_))
 intro Kz
 refine br<|eU C S (eO _) eL ?_
 exists aU S ah ?_
 refine eV S mH (Nat.zero_le _) (fun tq s S=>?_)
 exists bf S (fun fe s S=>PyProof.Rows.gt_int ?_)
 refine gY rfl<|wpAny_execs_nil<|ec ?_
 intro Kz
 refine wpAny_Return_some<|IfExp_<|wpAny_isTrue_Compare1<|a9 C S (aB ah) (eC _) I.up.up (bR ah) ds (fun s S=>?_)
 exists bZ S (fun ej s S=>?_)
 refine b7 nk ?_
 exists List_ ?_
 refine spliced_more<|aY C S (vo _) ?_
 exists aU S (aB ah) ?_
 refine bh C S<|VH C S I.up.up (fun ed s S=>cF S aG (fun x7 s S lU=>aT S (fun S=>ret x7 _ _ [_,_] s S (.cons _ _ .nil))))
theorem xiV{v it:Addr}{av:Value}{b8:Tok}(C:Cx gx aH A ae aE az L (dp+5) (un+15))(S:St ai ae L s l aa)(I:Inst aa v 487 (cN (q "character") b8 (.ref it) av))(hn:cK af gx.gw aa (q "dim") av)(hc:cK af gx.gw aa (q "class") av)(ret:∀x vs n aw s',St ai ae L s' l ((x,listOf vs n)::(aw++aa))→StrsAre vs.toList [q "character"]→R (.ok (.ret (.ref x))) s'):
  codeAny (model af gx.gw) A (.call (.ref 427) ⟨[.ref v],[]⟩) R s:=by
 refine A3 C S (fun g1 L1 s C S=>bo ?_)
 intro Kz Ez
 refine ec ?_
 intro Kz
 refine br<|a9 C S ah (eC _) I (bR ah) ds (fun s S=>?_)
 exists bZ S (fun bp s S=>?_)
 refine b7 nk<|wpAny_execs_nil<|ec ?_
 intro Kz
 refine aX<|aY C S (HL _) ?_
 exists aU S ah ?_
 refine bh C S<|xi6 C S I hn hc (fun x2 uJ wl mC s S k7=>aW S (fun s S=>ec ?_))
 intro Kz
 refine cD<|aY C S (HN _) ?_
 exists aU S (am ah) ?_
 refine bh C S<|xi3 C S I.app.up hn.app.up (fun x3 nt oM ve s S j9=>dg C.hh S mH (fun Ix oi s S hO W=>?_))
 refine dF W S hO (fun i l' ag=>l'.lookup (q "rows")=some (.ref x2)∧∃vs n,ag=((x3,listOf nt oM)::(ve++((x2,listOf vs n)::(mC++aa))):List (Addr×Obj))∧StrsAre vs.toList (([q "character"].take i).foldl ip [q "character"])) ⟨ah,uJ,wl,rfl,k7⟩ (fun zz zz zz hJ=>by obtain⟨_,_,_,rfl,_⟩:=hJ;exact mH) (fun i vv s l' ag it hi hv hJ S=>?_) (fun s l' ag hJ S=>?_)
 ·intro Kz Ez
  refine ay hJ fun hR z1=>aP z1 fun vs n z2=>ay z2 fun z3 ci=>?_
  clear hJ z1 z2
  refine xS1 z3 S fun S=>?_
  refine aP (eW j9 (i:=i) (by simpa using hv)) fun one to z1=>ay z1 fun z2 iD=>?_
  clear z1
  subst z2
  have eR:=A7 ([q "character"].take i) [q "character"]
  have j6:=cG ci;rw[Array.length_toList] at j6
  have lS:vs.size≤sizeLine:=by rw[sizeLine_eq];simp at eR;exact xgw j6 eR
  exists dG S ?_
  intro lz dz S
  refine eu S (fun s S=>ec ?_)
  intro Kz
  refine wpAny_If<|isTrue_and<|wpAny_isTrue_Compare1 ?_
  exists ap S ah<|bE S (fun fe s S=>km<|bV (fun c0=>?_) (fun c0=>?_))
  ·refine isTrue_and<|wpAny_isTrue_Compare1 ?_
   exists ap S ah<|ap S (am hR)<|notin_list_strs (St.lst S (bc (mA mH))) ci<|bV (fun c1=>?_) (fun c1=>?_)
   ·exists isTrue_and_nil<|er ?_
    refine ec ?_
    intro Kz
    refine wpAny_Expr<|methodCall_KW ?_
    exists ap S (am hR) ?_
    refine ft S (bc (mA mH)) ?_
    exists ap S ah ?_
    refine fb S (Up.tail (Up.tail (Up.app Up.head))) lS (fun s S=>wpAny_execs_nil<|wpAny_execs_nil<|aN (aR S (am hR) (aN (bC rfl ?_))))
    rw[dq _ _ iD,PG c0 c1];exact pf ci
   ·exists cJ ?_
    refine wpAny_execs_nil<|wpAny_execs_nil<|aN (aR S (am hR) (aN (a:=vs) (b:=n) (bC rfl ?_)))
    rw[dq _ _ iD,PF c1];exact ci
  ·exists cJ ?_
   refine wpAny_execs_nil<|wpAny_execs_nil<|aN (aR S (am hR) (aN (a:=vs) (b:=n) (bC rfl ?_)))
   rw[dq _ _ iD,PE c0];exact ci
 refine ay hJ fun hR z1=>aP z1 fun vs n z2=>ay z2 fun z3 ci=>?_
 clear hJ z1 z2
 refine Wq z3 S fun S=>?_
 have hl:=cG j9;rw[Array.length_toList] at hl
 rw[List.take_of_length_le (by exact fK hl)] at ci
 rw[show[q "character"].foldl ip [q "character"]=[q "character"] by kernel_rfl] at ci
 refine ec ?_
 intro Kz
 refine wpAny_Return_some ?_
 exists ap S hR ?_
 refine aT S (fun S=>?_)
 exact ret x2 vs n mC s (S.sub (.cons _ (List.sublist_append_right _ _))) ci
end
theorem Up.toF{d:Addr}{g:Obj→List (Addr×Obj)}(hD:(aa.map (·.1)).Nodup)(u:∀o',Up d o o' aa (g o')):UpdF d o aa g:=by
 obtain⟨pre,post,e,hg,a,b⟩:∃pre post,aa=pre++(d,o)::post∧(∀o',g o'=pre++(d,o')::post)∧(∀p∈pre,p.1≠d)∧∀p∈post,p.1≠d:=by
  refine aP (((u o).iK hD).split) fun pre post z1=>bB z1 fun e1 z2 a b=>?_
  clear z1
  refine aN (a:=pre) (b:=post) (bW e1 (fun o'=>?_) a b)
  refine aP (((u o').iK hD).split) fun O2 O0 z1=>bB z1 fun Hn Ho a' b'=>?_
  clear z1
  rw[Ho]
  have:=e1.symm.trans Hn
  have key:∀(p1 p2 q1 q2:List (Addr×Obj)),p1++(d,o)::q1=p2++(d,o)::q2→(∀p∈p1,p.1≠d)→(∀p∈p2,p.1≠d)→p1=p2∧q1=q2:=by
   intro p1
   induction p1 with
   |nil=>
    intro p2 q1 q2 e _ h2
    cases p2 with
    |nil=>simp at e;exact⟨rfl,e⟩
    |cons z r=>simp at e;exact absurd (by rw[←e.1]) (h2 z (.head _))
   |cons y r ih=>
    intro p2 q1 q2 e h1 h2
    cases p2 with
    |nil=>simp at e;exact absurd (by rw[e.1]) (h1 y (.head _))
    |cons z r2=>
     simp at e
     obtain⟨rfl,e⟩:=e
     obtain⟨a,b⟩:=ih r2 q1 q2 e (fun p hp=>h1 p (.tail _ hp)) (fun p hp=>h2 p (.tail _ hp))
     exact⟨by rw[a],b⟩
  obtain⟨c1,c2⟩:=key pre O2 post O0 this a a'
  rw[c1,c2]
 have mk:∀(pre:List (Addr×Obj)) (g:Obj→List (Addr×Obj)),(∀p∈pre,p.1≠d)→(∀o',g o'=pre++(d,o')::post)→UpdF d o (pre++(d,o)::post) g:=by
  intro pre
  induction pre with
  |nil=>intro g _ hg;have:g=fun o'=>(d,o')::post:=funext hg;rw[this];exact .head b
  |cons y r ih=>
   intro g h1 hg
   have:g=fun o'=>y::(r++(d,o')::post):=funext hg
   rw[this]
   exact .tail (h1 y (.head _)) (ih _ (fun p hp=>h1 p (.tail _ hp)) fun zz=>rfl)
 rw[e];exact mk pre g a hg
theorem Up.same{d:Addr}{l l':List (Addr×Obj)}(u:Up d o o l l'):l'=l:=by
 generalize e:o=o' at u
 induction u with
 |head=>first|rfl|rw[e]
 |tail u ih=>rw[ih]
def dX(aa:List (Addr×Obj))(aI:Pos)(bw:Str)(ps:Array Value):Prop:=ps=#[]∨∃c' oc vs t,ps=#[rawInt aI.line,rawInt aI.col,.ref c']∧(c',oc)∈aa∧oc.data= .fields vs∧vs[1]?=some (.str bw t)
theorem dX.mem{aa ag aI bw ps}(h:dX aa aI bw ps)(k:∀c' oc vs,(c',oc)∈aa→oc.data= .fields vs→(∃t,vs[1]?=some (.str bw t))→(c',oc)∈ag):dX ag aI bw ps:=by
 rcases h with h|⟨c',oc,vs,t,a,b,c,d⟩
 ·exact .inl h
 ·exact .inr ⟨c',oc,vs,t,a,k _ _ _ b c ⟨t,d⟩,c,d⟩
theorem dX.no{aa aI bw ps}(h:dX aa aI bw ps){q':Str}{t':Tok}:ps[1]?≠some (.str q' t'):=by
 rcases h with rfl|⟨c',oc,vs,t,rfl,_⟩
 ·simp
 ·simp[rawInt]
section
theorem Cx.in1(C:Cx gx aH A ae aE az L dp (un+1)):Cx gx aH A.in1 ae aE az L dp un:=
 ⟨C.B,C.X,C.T,C.hA,C.hf,C.hk,C.hh,C.hd,by have:=C.hu;show A.units+1+un<_;exact OJ this⟩
theorem O9{first:List Value}{T:String}{vT:List Keyword}(h:wpAny M A (evalAll ((backToKw aI (keywordEach vT ev)).map (·.2))) (fun ks bb=>wpAny M A (call (.builtin T) first (((backToKw aI (keywordEach vT ev)).filterMap (·.1)).zip ks)) Q E bb) E s)(kU:autoParam ((backToKw aI (keywordEach vT ev)).all (·.1.isSome)=true) rf)(vH:autoParam ((backToKw aI (keywordEach vT ev)).any (·.1.isNone)=false) rf):
  wpAny M A (callWith aI (.builtin T) first (backTo aI (starEach [] ev)) (backToKw aI (keywordEach vT ev))) Q E s:=by
 refine callWith_builtin_kwB rfl vH (evalArgs_kw2_nil kU (wpAny_mono h (fun ks bb dS=>?_) fun zz zz e=>e))
 rw[List.append_nil]
 exact dS
theorem xhE{cn:Str}{sc:Scope}{c P:Addr}{aF:Arguments}{bL:Expr}{ps:Array Value}{bw:Str}{g:Obj→List (Addr×Obj)}(C:Cx gx aH A ae aE az L dp un)(S:St ai ae L s l aa)(hc:codeHdIn (KF gx.gw.params) c P=true)(hT:dX aa aI bw ps)(u:∀o',Up P (tabObj ps) o' aa (g o'))(hq:(envX cn sc L a (.ref c) cl).qual++"<lambda>"=bw)(Bn:defaultsOf aF (envX cn sc L a (.ref c) cl)=([],[]))(fY:closureFor aq (envX cn sc L a (.ref c) cl)=pure [])(h:∀f fo c' oc vs t iU aw da s',fo=kla_obj "<lambda>" bw aF bL aq [] ((gx.gg "__name__").getD .none) c' iU→St ai ae L s' l ((f,fo)::(aw++g (tabObj da)))→(c',oc)∈aw++g (tabObj da)→oc.data= .fields vs→vs[1]?=some (.str bw t)→dX (aw++g (tabObj da)) aI bw da→
      (∀p∈aa,p.1<f)→Q (.ref f) s'):
  wpAny (model af gx.gw) A (eval (.Lambda aF bL aq aI) (envX cn sc L a (.ref c) cl)) Q E s:=by
 have hC:=codeHd_of_K C.X hc
 subst hq
 refine kla_eval Bn ?_
 rcases hT with rfl|⟨c',oc,vs,t,rfl,hm,hd,hv⟩
 ·refine kla_nest S.F S.N C.T hC rfl (Up.toF S.D u) trivial rfl fY fun f c' oc vs t iU h' tk F' N' hd hv oF oG=>?_
  have hk:(g (tabObj (#[]++#[rawInt aI.line,rawInt aI.col,.ref c']))).map (·.1)=aa.map (·.1):=(u _).keys
  have S':St ai ae L {s with heap:=h',toks:=tk} l ((f,kla_obj "<lambda>" ((envX cn sc L a (.ref c) cl).qual++"<lambda>") aF bL aq [] ((gx.gg "__name__").getD .none) c' iU)::([(c',oc)]++g (tabObj #[rawInt aI.line,rawInt aI.col,.ref c']))):=by
   refine⟨F',by simpa using N',?_,by rw[S.R]⟩
   rw[List.map_cons,List.singleton_append,List.map_cons]
   have Ip:(g (tabObj #[rawInt aI.line,rawInt aI.col,.ref c'])).map (·.1)=aa.map (·.1):=(u _).keys
   rw[Ip,List.nodup_cons,List.nodup_cons]
   refine⟨?_,?_,S.D⟩
   ·simp only[List.mem_cons,not_or]
    refine⟨Nat.ne_of_gt oG,fun hm=>aS (List.mem_map.mp hm) fun q z1=>ay z1 fun hq e=>?_⟩
    clear z1
    have:=oF q hq
    have e:q.1=f:=e
    exact absurd (Nat.lt_trans this oG) (by rw[e];exact Nat.lt_irrefl _)
   ·intro hm
    refine aS (List.mem_map.mp hm) fun q z1=>ay z1 fun hq e=>?_
    clear z1
    have:=oF q hq
    have e:q.1=c':=e
    exact absurd this (by rw[e];exact Nat.lt_irrefl _)
  exact h f _ c' oc vs t iU [(c',oc)] _ _ rfl S' (List.mem_append_left _ (.head _)) hd hv (.inr ⟨c',oc,vs,t,rfl,List.mem_append_left _ (.head _),hd,hv⟩) fun q hq=>Nat.lt_trans (oF q hq) oG
 ·refine kla_hit (ps:=#[rawInt aI.line,rawInt aI.col,.ref c']) (c':=c') S.F S.N C.T hC rfl (u (tabObj #[])).mem trivial ?_ fY fun f iU h' tk F' N' lt=>?_
  ·show codeAmong aI [rawInt aI.line,rawInt aI.col,.ref c']=_
   unfold rawInt
   simp[codeAmong]
  ·have e:g (tabObj #[rawInt aI.line,rawInt aI.col,.ref c'])=aa:=(u _).same
   refine h f _ c' oc vs t iU [] #[rawInt aI.line,rawInt aI.col,.ref c'] _ rfl ⟨F',by rw[e];exact N',by rw[e];exact S.nd lt,by rw[S.R]⟩ (by rw[e];exact hm) hd hv (.inr ⟨c',oc,vs,t,rfl,by rw[e];exact hm,hd,hv⟩) lt
theorem xcA{bw:Str}{aF:Arguments}{bL:Expr}{pm iU:Value}{c' f:Addr}{oc:Obj}{vs:Array Value}{t:Tok}{args:Args}{em gV:List (Str×Value)}(hr:em.reverse=gV)(hf:(f,kla_obj name bw aF bL aq cl pm c' iU)∈aa)(fH:(c',oc)∈aa)(hd:oc.data= .fields vs)(hv:vs[1]?=some (.str bw t))(nU:bindArgs (kla_fn name bw aF bL aq cl pm (.ref c') iU) args=pure em)(lN:∀y∈em,aq.names.lookup y.1=some .local)(jY:aq.isCoroutine=false)(j0:aq.isGenerator=false)(hk:aq.kind= .function)(jX:∀x∈aq.names,x.2≠.cell)(C:Cx gx aH A ae aE az L (dp+1) (un+3))(S:St ai ae L s l aa)(h:∀g L' aL,Cx gx A (A.deeper (envX bw aq L' f (.ref c') cl)) g (az::aE) (envX bw aq L' f (.ref c') cl) L' dp un→St ai g L' aL gV aa→
      wpAny (model af gx.gw) (A.deeper (envX bw aq L' f (.ref c') cl)) (eval bL (envX bw aq L' f (.ref c') cl)) (fun v s'=>LeaveK ae L (dY l) g R v s')
        (fun e s'=>wpAny (model af gx.gw) (A.deeper (envX bw aq L' f (.ref c') cl)) (leaving (envX bw aq L' f (.ref c') cl) e) (fun zz cM=>R (.error e) cM) (fun e' cM=>R (.error e') cM) s') aL):
  codeAny (model af gx.gw) A (.call (.ref f) args) R s:=
 kla_code (K:=KF gx.gw.params) C.B S.F C.X S.N C.T C.hA C.hf C.hk hf ⟨c',oc,vs,t,rfl,(S.N _ fH).1,hd,hv⟩ (by have:=C.hd;exact Gg this) nU lN
  (fun g L' dD FG F' N' B' X' T'=>h g L' _ (C.push B' X' T' rfl hk) ⟨hr▸F',N',S.D,by rw[S.R]⟩) jY j0 hk jX
theorem cZ.perm{vs mn:List Value}(hp:vs.Perm mn):∀{aK:List (Str×Int)},cZ aa vs aK→∃gG,cZ aa mn gG∧gG.Perm aK:=by
 induction hp with
 |nil=>intro aK h;exact⟨aK,h,.refl _⟩
 |cons x _ ih=>
  intro aK h
  cases h with
  |cons m r=>obtain⟨r',a,b⟩:=ih r;exact⟨_::r',.cons m a,b.cons _⟩
 |swap x y l=>
  intro aK h
  cases h with
  |cons m r=>cases r with
   |cons m2 r2=>exact⟨_,.cons m2 (.cons m r2),.swap _ _ _⟩
 |trans _ _ ih1 ih2=>
  intro aK h
  refine aS (ih1 h) fun r1 z1=>ay z1 fun a1 b1=>?_
  clear z1
  refine aS (ih2 a1) fun r2 z1=>ay z1 fun a2 b2=>?_
  clear z1
  exact⟨r2,a2,b2.trans b1⟩
theorem cZ.key{vs:List Value}(h:cZ aa vs aK){i:Nat}{k:Int}(hv:vs[i]?=some v)(hk:(aK.map (·.2))[i]?=some k):
  ∃t x a b c,v= .ref t∧(t,bK #[.str x a,.int k b] c)∈aa:=by
 refine f9 (h.get hv) fun t x k' a b c z1=>aO z1 fun z2 hr hm=>?_
 clear z1
 subst z2
 rw[List.getElem?_map,hr] at hk
 cases hk
 exact iy (a:=t) (b:=x) (c:=a) (d:=b) (e:=c) (bC rfl hm)
theorem TD{h:Heap}:∀(xs:List (Addr×Obj)),News ae L h xs→∃ys:List (Addr×Obj),(ys.map (·.1)).Nodup∧∀p,p∈xs↔p∈ys
 |[],_=>⟨[],List.nodup_nil,fun zz=>Iff.rfl⟩
 |x::xs,N=>by
  refine aS (TD xs fun p hp=>N p (.tail _ hp)) fun ys z1=>ay z1 fun hn hm=>?_
  clear z1
  by_cases hx:x.1∈ys.map (·.1)
  ·refine aS (List.mem_map.mp hx) fun y z1=>ay z1 fun hy e=>?_
   clear z1
   have a:=(N y (.tail _ ((hm y).mpr hy))).1
   have b:=(N x (.head _)).1
   rw[e,b] at a
   have e2:x=y:=Prod.ext e.symm (Option.some.inj a)
   refine⟨ys,hn,fun p=>⟨fun hp=>?_,fun hp=> .tail _ ((hm p).mpr hp)⟩⟩
   rcases List.mem_cons.mp hp with rfl|hp
   ·rw[e2];exact hy
   ·exact(hm p).mp hp
  ·refine⟨x::ys,List.nodup_cons.mpr ⟨hx,hn⟩,fun p=>?_⟩
   rw[List.mem_cons,List.mem_cons,hm p]
theorem xhT{D f:Addr}{n:Nat}{g:Obj→List (Addr×Obj)}{lr:List (Addr×Obj)}(C:Cx gx aH A ae aE az L dp (un+1))(S:St ai ae L s l aa)(u:∀o',Up D (listOf ba n) o' aa (g o'))(cy:cZ lr ba.toList aK)(xdR:∀p∈lr,p∈aa)(h64:ba.size<64)(turn:∀(t:Addr) (x:Str) (k:Int) (a b:Tok) (c:Nat) (Pm s':Shared) (ag:List (Addr×Obj)),(∀p∈aa,p.1≠D→p∈ag)→(t,bK #[.str x a,.int k b] c)∈ag→Cx gx aH A.in1 ae aE az L dp un→St Pm ae L s' l ag→
      codeAny (model af gx.gw) A.in1 (.call (.ref f) ⟨[.ref t],[]⟩) (fun r cM=>∃tk,r= .ok (.ret (.int k tk))∧St Pm ae L cM l ag) s')(h:∀out m gG s',St ai ae L s' l (g (listOf out m))→cZ lr out.toList gG→gG.Perm aK→Q .none s'):
  wpAny (model af gx.gw) A (call (.builtin "list.sort") [.ref D] [(Str.ofString "key",.ref f)]) Q E s:=by
 refine aP ((Up.toF S.D u).split) fun pre post z1=>bB z1 fun e1 hg a b=>?_
 clear z1
 subst e1
 have hm:(D,listOf ba n)∈pre++(D,listOf ba n)::post:=List.mem_append_right _ (.head _)
 have hD:=S.N _ hm
 have N1:News ae L s.heap (pre++post):=fun p hp=>S.N p (by
  rcases List.mem_append.mp hp with hp|hp
  ·exact List.mem_append_left _ hp
  ·exact List.mem_append_right _ (.tail _ hp))
 have ne1:∀p∈pre++post,p.1≠D:=fun p hp=>(List.mem_append.mp hp).elim (a p) (b p)
 have hlen:(aK.map (·.2)).length=ba.toList.length:=by rw[List.length_map,cy.len]
 have ho:s.heap.get? D=some (seqObj "list" ba.toList.toArray n):=by rw[Array.toArray_toList];exact hD.1
 refine wpAny_call_entry_kw slot_list_sort ⟨_,hD.1,rfl⟩ entry_list_sort ?_ (ksk_l1 _ _)
 rw[ksk_t1]
 refine ksk_sort (news:=pre++post) (kz:=aK.map (·.2)) (vs:=ba.toList) S.F N1 ho hD.2.1 hD.2.2 ne1 hlen (by simpa using h64) (fun i v k hv hk hh tk own F' N'=>?_) fun h' tk out m F' N' ko=>?_
 ·refine eY (cy.key hv hk) fun t x ta tb tc z1=>ay z1 fun z2 ht=>?_
  clear z1
  subst z2
  replace ht:=xdR _ ht
  refine aS (TD _ N') fun ys z1=>ay z1 fun hn hy=>?_
  clear z1
  have keep:∀p∈pre++(D,listOf ba n)::post,p.1≠D→p∈ys:=fun p hp eD=>(hy p).mp (List.mem_append_left _ (by
   rcases List.mem_append.mp hp with hp|hp
   ·exact List.mem_append_left _ hp
   ·rcases List.mem_cons.mp hp with rfl|hp
    ·exact absurd rfl eD
    ·exact List.mem_append_right _ hp))
  have htD:t≠D:=fun e=>by
   subst e
   have z:Value.type "tuple"=Value.type "list":=congrArg Obj.cls (S.uniq ht hm)
   injection z with z
   exact absurd z (by decide)
  refine wpAny_call (codeAny_mono (turn t x k ta tb tc {s with heap:=hh,toks:=tk} _ ys keep (keep _ ht htD) C.in1 ⟨F',fun p hp=>N' p ((hy p).mpr hp),hn,rfl⟩) fun r s2 h2=>aS h2 fun bO z1=>ay z1 fun z2 S2=>?_)
  clear h2 z1
  subst z2
  refine eK (a:=s2.heap) (b:=s2.toks) (c:=bO) (bW S2.R rfl S2.F (fun p hp=>S2.N p ((hy p).mp hp)))
 ·refine⟨.none,rfl,aS ko fun ps z1=>aO z1 fun hp fg z2=>?_⟩
  clear ko z1
  have hz:((aK.map (·.2)).zip ba.toList).map Prod.snd=ba.toList:=by
   rw[List.map_snd_zip];rw[hlen];exact Nat.le_refl _
  have qi:ba.toList.Perm out.toList:=by
   rw[fg,←hz];exact(hp.map Prod.snd).symm
  refine aS (cy.perm qi) fun gG z1=>ay z1 fun hr' ID=>?_
  clear z1
  refine h out m gG _ (⟨F',?_,?_,by rw[S.R]⟩:St ai ae L _ l _) hr' ID
  ·rw[hg]
   intro p hp
   rcases List.mem_append.mp hp with hp|hp
   ·exact N' p (.tail _ (List.mem_append_left _ hp))
   ·rcases List.mem_cons.mp hp with rfl|hp
    ·exact N' _ (.head _)
    ·exact N' p (.tail _ (List.mem_append_right _ hp))
  ·rw[(u _).keys];exact S.D
end
theorem ZY(P:Params):codeHdIn (KF P) 433 429=true:=by kernel_rfl
theorem cK.nn{af w aa x}:cK af w aa x .none:= .none
inductive dr(W:List Addr)(aa:List (Addr×Obj))(v:Addr):List Str→Prop
 |i {b8 it}:cC W aa v 487 (cN (q "integer") b8 (.ref it) .none)→dr W aa v [q "integer",q "numeric"]
 |d {b8 it}:cC W aa v 487 (cN (q "double") b8 (.ref it) .none)→dr W aa v [q "numeric"]
 |c {b8 it}:cC W aa v 487 (cN (q "character") b8 (.ref it) .none)→dr W aa v [q "character"]
 |o {x tk d kt}:cC W aa v 658 [(q "attrs",.none),(q "slots",.ref d),(q "name",.str x tk),(q "kind",.str (q "S4") kt)]→dr W aa v [x]
theorem dr.mono{W aa ag v own}(h:dr W aa v own)(k:Kp W aa ag):dr W ag v own:=by
 cases h with
 |i a=>exact .i (a.mono k)
 |d a=>exact .d (a.mono k)
 |c a=>exact .c (a.mono k)
 |o a=>exact .o (a.mono k)
theorem dr.mem{W aa ag v own}(h:dr W aa v own)(k:∀p∈aa,p∈ag):dr W ag v own:=h.mono (.fq k)
theorem dr.up{W aa v own}{p:Addr×Obj}(h:dr W aa v own):dr W (p::aa) v own:=h.mem fun zz m=> .tail _ m
theorem dr.app{W aa aw v own}(h:dr W aa v own):dr W (aw++aa) v own:=h.mem fun zz m=>mA m
theorem dr.step{W W' F aa ag v own}(h:dr W aa v own)(k:Kp F aa ag)(hF:∀a∈F,a∈W)(g:Wx W W' aa):dr W' ag v own:=by
 cases h with
 |i a=>exact .i (a.step k hF g)
 |d a=>exact .d (a.step k hF g)
 |c a=>exact .c (a.step k hF g)
 |o a=>exact .o (a.step k hF g)
theorem dr.on{W v own}(S:St ai ae L s l aa)(h:dr W aa v own):dr W aa v own:=h
theorem dr.len{W aa v own}(h:dr W aa v own):own.length≤2∧1≤own.length:=by cases h<;>simp
noncomputable def gi(aK:List (Str×Int))(p:Str)(k:Int):List (Str×Int):=if (p==q "ANY"||aK.any (·.1==p))=true then aK else aK++[(p,k)]
theorem AR{k:Int}{p:Str}{aD:List (Str×Value)}(h:fM aD aK)(c:(!(valueAt aD p).isSome)=true):gi aK p k=aK++[(p,k)]:=by
 rw[h p] at c;unfold gi;rw[if_neg (by intro e;rw[e] at c;cases c)]
theorem AQ{k:Int}{p:Str}{aD:List (Str×Value)}(h:fM aD aK)(c:(!(valueAt aD p).isSome)=false):gi aK p k=aK:=by
 rw[h p] at c;unfold gi;rw[if_pos (by cases e:(p==q "ANY"||aK.any (·.1==p))<;>rw[e] at c<;>first|rfl|cases c)]
theorem G4{k:Int}{p:Str}:aK.length≤(gi aK p k).length:=by unfold gi;split<;>simp
theorem fM.xjc{v':Value}:fM (merged [] [(q "ANY",v')]) []:=by
 intro y
 show(valueAt (stored [] (q "ANY") v') y).isSome=_
 rw[AH]
 have:(valueAt ([]:List (Str×Value)) y).isSome=false:=rfl
 rw[this,Bool.false_or];simp
noncomputable def oQ(aK:List (Str×Int))(z:Str×Nat):List (Str×Int):=gi aK z.1 (z.2:Int)
noncomputable def ie(i:Nat)(aK:List (Str×Int))(z:Str×Int):List (Str×Int):=gi aK z.1 (z.2+(i:Int))
theorem lg{aK x}{i:Nat}:oQ aK (x,i)=gi aK x (i:Int):=rfl
theorem Bz{aK x i}{k:Int}:ie i aK (x,k)=gi aK x (k+(i:Int)):=rfl
noncomputable def outF(cs:List (Str×CA))(us:List (Str×List Str))(aK:List (Str×Int))(z:Str×Nat):List (Str×Int):=(dn cs us z.1).foldl (ie z.2) aK
noncomputable def js(own:List Str):List (Str×Int):=own.zipIdx.foldl oQ []
noncomputable def hY(cs:List (Str×CA))(us:List (Str×List Str))(own:List Str):List (Str×Int):=own.zipIdx.foldl (outF cs us) (js own)
theorem Ux{cs us aK z}:aK.length≤(outF cs us aK z).length:=A8 (f:=ie z.2) (μ:=List.length) (fun st a=>G4) _ _
theorem Ri{cs us own}(i:Nat):((own.zipIdx.take i).foldl oQ []).length≤(hY cs us own).length:=
 Nat.le_trans (A9 (f:=oQ) (μ:=List.length) (fun st a=>G4) own.zipIdx [] i) (A8 (f:=outF cs us) (μ:=List.length) (fun st a=>Ux) _ _)
theorem xam{cs us own}{i j:Nat}(hx:own.zipIdx[i]?=some (x,i)):(((dn cs us x).take j).foldl (ie i) ((own.zipIdx.take i).foldl (outF cs us) (js own))).length≤(hY cs us own).length:=by
 refine Nat.le_trans (A9 (f:=ie i) (μ:=List.length) (fun st a=>G4) (dn cs us x) _ j) ?_
 have e:(dn cs us x).foldl (ie i) ((own.zipIdx.take i).foldl (outF cs us) (js own))=(own.zipIdx.take (i+1)).foldl (outF cs us) (js own):=by rw[dq _ _ hx];rfl
 rw[e]
 exact A9 (f:=outF cs us) (μ:=List.length) (fun st a=>Ux) own.zipIdx _ (i+1)
theorem Wh{own:List Str}{i:Nat}(h:own[i]?=some x):own.zipIdx[i]?=some (x,i):=by rw[List.getElem?_zipIdx,h];simp
theorem xan{cs us W aa v own}(hx:∀x∈own,(x==q "ANY")=false)(B:dr W aa v own):1≤(hY cs us own).length:=by
 have h:=B.len.2
 refine Nat.le_trans ?_ (Ri (cs:=cs) (us:=us) (own:=own) 1)
 cases own with
 |nil=>simp at h
 |cons x r=>
  rw[List.zipIdx_cons]
  simp only[List.take_succ_cons,List.take_zero,List.foldl_cons,List.foldl_nil]
  unfold oQ gi
  rw[hx x (.head _)]
  simp
noncomputable abbrev oD:Pos:=⟨336,18,336,36⟩
section
theorem xiY{v d:Addr}{tk kt:Tok}(C:Cx gx aH A ae aE az L (dp+5) (un+15))(S:St ai ae L s l aa)(I:Inst aa v 658 [(q "attrs",.none),(q "slots",.ref d),(q "name",.str x tk),(q "kind",.str (q "S4") kt)])(ret:∀x' vs n aw s',St ai ae L s' l ((x',listOf vs n)::(aw++aa))→StrsAre vs.toList [x]→R (.ok (.ret (.ref x'))) s'):
  codeAny (model af gx.gw) A (.call (.ref 427) ⟨[.ref v],[]⟩) R s:=by
 refine A3 C S (fun g1 L1 s C S=>bo ?_)
 intro Kz Ez
 refine ec ?_
 intro Kz
 refine br<|a9 C S ah (fB (pF _) (UM _) (Ts _) ub) I (aV ah) ds (fun s S=>?_)
 exists bZ S (fun bp s S=>?_)
 refine oB AV<|ec ?_
 intro Kz
 refine wpAny_Return_some ?_
 exists List_ ?_
 refine spliced_more<|a9 C S ah (fB (pF _) (UM _) (Tt _) An) I (aB ah) ds (fun s S=>cF S aG (fun x2 s S dE=>aT S (fun S=>?_)))
 exact ret x2 _ _ [] s S (.cons _ _ .nil)
theorem xiU{v:Addr}{own:List Str}(C:Cx gx aH A ae aE az L (dp+5) (un+15))(S:St ai ae L s l aa)(B:dr W aa v own)(ret:∀x vs n aw s',St ai ae L s' l ((x,listOf vs n)::(aw++aa))→StrsAre vs.toList own→R (.ok (.ret (.ref x))) s'):
  codeAny (model af gx.gw) A (.call (.ref 427) ⟨[.ref v],[]⟩) R s:=by
 cases B with
 |i a=>exact xiX C S a.inst .nn .nn ret
 |d a=>exact xiW C S a.inst .nn .nn ret
 |c a=>exact xiV C S a.inst .nn .nn ret
 |o a=>exact xiY C S a.inst ret
theorem xiZ{t dc du:Addr}{cs:List (Str×CA)}{v:Addr}{own:List Str}{ps:Array Value}{g:Obj→List (Addr×Obj)}(C:Cx gx aH A ae aE az L (dp+7) (un+21))(S:St ai ae L s l aa)(T:Tab af gx.gw W aa t dc du cs us)(B:dr W aa v own)(hx:∀x∈own,(x==q "ANY")=false)(hz:(hY cs us own).length≤60)(H1:dX aa oD (q "class_supers.<locals>.<lambda>") ps)(u:∀o',Up 429 (tabObj ps) o' aa (g o'))(ret:∀r vs n aw gG k da s',St ai ae L s' l ((r,listOf vs n)::(aw++g (tabObj da)))→cZ aw vs.toList (gG++[(q "ANY",k)])→gG.Perm (hY cs us own)→dX (aw++g (tabObj da)) oD (q "class_supers.<locals>.<lambda>") da→R (.ok (.ret (.ref r))) s'):
  codeAny (model af gx.gw) A (.call (.ref 434) ⟨[.ref t,.ref v],[]⟩) R s:=by
 refine xcl C S (fun g1 L1 s C S=>bo ?_)
 intro Kz Ez
 have mR:=B.len
 refine ec ?_
 intro Kz
 refine aX ?_
 exists List_ ?_
 refine cF S aG (fun x1 s S eA=>aW S (fun s S=>ec ?_))
 intro Kz
 refine aX<|UU C S rfl rfl (by simp) (by decide) (fun d2 s S ji=>pairTrees_cons_walk ?_)
 exists bE S (fun cu s S=>wpAny_Constant_bool ?_)
 refine pairTrees_nil_walk<|bC S (iu (a:=[(q "ANY",.bool true)]) (bC ⟨strKind_is _ _ _ _,rfl,trivial⟩ (fun ki s hd2 S=>aW S (fun s S=>ec ?_))))
 intro Kz
 refine aX<|aY C S (xdl _) ?_
 exists aU S (aB ah) ?_
 refine bh C S<|xiU C S B.up.up (fun ow fR on l5 s S how=>?_)
 have mS:=bX (cG how)
 refine aW S (fun s S=>?_)
 have S:=St.perm (ag:=(ow,listOf fR on)::(d2,ki)::(x1,listOf #[] 0)::(l5++aa)) S (.cons _ pq2)
 refine ec ?_
 intro Kz
 refine cD<|fS C S (jf _) ja<|spliced_more<|eU C S (eO _) eL ?_
 exists aU S ah ?_
 refine eV S mH (by rw[sizeLine_eq];exact T6 mR mS) (fun tq s S=>?_)
 refine spliced_none<|jm S (fun Vd u1 v1 s S Jh=>jl C.hh S mH (Int.natCast_nonneg _) (by exact TZ mR mS) (fun Wn oi1 s S hI1 W1=>dF W1 S hI1 (fun i l' ag=>(l'.lookup (q "table")=some (.ref t)∧l'.lookup (q "rows")=some (.ref x1)∧l'.lookup (q "seen")=some (.ref d2)∧l'.lookup (q "own")=some (.ref ow))∧∃vs m o aD aw,ag=((Vd,uA (fR.size:Int) _ _ _)::((ow,listOf fR on)::(d2,o)::(x1,listOf vs m)::(aw++(l5++aa)):List (Addr×Obj)))∧cZ aw vs.toList ((own.zipIdx.take i).foldl oQ [])∧o.IsDictOf (PySem.strKind af gx.gw) aD∧fM aD ((own.zipIdx.take i).foldl oQ [])) ⟨⟨(bR ah),(aB ah),(am ah),ah⟩,#[],_,_,_,[],rfl,.nil,hd2,fM.xjc⟩ (fun zz zz zz hJ=>trivial) (fun i vv s l' ag it hi hv hJ S=>?_) (fun s l' ag hJ S=>?_)))
 ·intro Kz Ez
  refine ay hJ fun z1 z2=>bB z1 fun hT hR c8 hO=>eY z2 fun vs m o aD aw z3=>bB z3 fun z4 cy ho c9=>?_
  clear hJ z1 z2 z3
  refine xS1 z4 S fun S=>?_
  obtain⟨tp,rfl⟩:=hv
  have nZ:i<own.length:=by simpa [←mS] using hi
  obtain⟨x,qh⟩:=je nZ
  have mW:=Wh qh
  obtain⟨vx,vJ,tx,rfl⟩:∃vx,fR[i]?=some vx∧∃tx,vx= .str x tx:=by
   have vE:i<fR.size:=by exact TY hi
   refine⟨fR[i],Array.getElem?_eq_getElem vE,?_⟩
   refine aP (eW how (i:=i) (v:=fR[i]) (by simp[vE])) fun x2 t2 z1=>ay z1 fun e2 h2=>?_
   clear z1
   rw[qh] at h2;cases h2;exact⟨t2,e2⟩
  have fh:=bX (cy.len)
  have hle:=Ri (cs:=cs) (us:=us) (own:=own) i
  have dw:vs.size≤sizeLine:=by rw[sizeLine_eq];exact Uw hz fh hle
  have cV:=c9.len (by obtain⟨_,_,_,_,_,_,hn⟩:=ho;exact hn)
  exists dG S ?_
  intro lz dz S
  refine eu S (fun s S=>ec ?_)
  intro Kz
  refine br<|Subscript_ ?_
  exists ap S (am hO)<|ap S ah ?_
  refine cL S (bc mH) (Int.natCast_nonneg _) (by exact Ge mR nZ) (x:= .str x tx) (by simpa using vJ) ?_
  exists ap S (am c8) ?_
  refine uq S (b5 mH) ho ji (fun s S=>?_)
  exists bV (fun c1=>?_) (fun c1=>?_)
  ·refine ec ?_
   intro Kz
   refine wpAny_Assign_Subscript ?_
   exists wpAny_Constant_bool<|ap S (am c8) ?_
   refine Subscript_ ?_
   exists ap S (am hO)<|ap S ah ?_
   refine cL S (bc mH) (Int.natCast_nonneg _) (by exact Ge mR nZ) (x:= .str x tx) (by simpa using vJ) ?_
   refine jn S (fun zz=>(Up.tail (Up.tail (Up.tail Up.head)))) ho (by rw[sizeLine_eq];exact Uv hz hle cV) (fun o2 s fg S=>?_)
   refine ec ?_
   intro Kz
   refine wpAny_Expr<|methodCall_KW ?_
   exists ap S (am hR) ?_
   refine ft S (ch mH) ?_
   exists Tuple_ ?_
   refine spliced_more<|Subscript_ ?_
   exists ap S (am hO)<|ap S ah ?_
   refine cL S (bc mH) (Int.natCast_nonneg _) (by exact Ge mR nZ) (x:= .str x tx) (by simpa using vJ) ?_
   exists aU S ah ?_
   refine ea S aG (fun x4 s S i2=>fb S (Up.tail (Up.tail (Up.tail (Up.tail (Up.tail Up.head))))) dw (fun s S=>wpAny_execs_nil<|wpAny_execs_nil ?_))
   have S:=St.perm (ag:=it::(Vd,_)::((ow,listOf fR on)::(d2,o2)::(x1,listOf (vs.push (.ref x4)) (m+1))::((((x4,_)::aw))++(l5++aa)):List (Addr×Obj))) S S9
   refine aN (aR S (bW (am hT) (am hR) (am c8) (am hO)) (iy (e:=((x4,_)::aw)) (bW rfl ?_ fg ?_)))
   ·rw[dq _ _ mW,lg,AR c9 c1];exact(cy.mono fun zz h=>mT h).push mH
   rw[dq _ _ mW,lg,AR c9 c1];exact c9.add
  ·refine wpAny_execs_nil<|wpAny_execs_nil<|aN (aR S (bW (am hT) (am hR) (am c8) (am hO)) (iy (e:=aw) (bW rfl ?_ ho ?_)))
   ·rw[dq _ _ mW,lg,AQ c9 c1];exact cy
   rw[dq _ _ mW,lg,AQ c9 c1];exact c9
 refine ay hJ fun z1 z2=>bB z1 fun hT hR c8 hO=>eY z2 fun vs m o aD aw z3=>bB z3 fun z4 cy ho c9=>?_
 clear hJ z1 z2 z3
 refine Wq z4 S fun S=>?_
 have j8:own.zipIdx.length=own.length:=List.length_zipIdx
 rw[List.take_of_length_le (by rw[j8];exact OL mS)] at cy c9
 replace S:=S.drop
 refine ec ?_
 intro Kz
 refine cD<|fS C S (jf _) ja<|spliced_more<|eU C S (eO _) eL ?_
 exists aU S hO ?_
 refine eV S mH (by rw[sizeLine_eq];exact T6 mR mS) (fun tq s S=>?_)
 refine spliced_none<|jm S (fun Gz u2 v2 s S Ji=>jl C.hh S mH (Int.natCast_nonneg _) (by exact TZ mR mS) (fun Wo OC s S vy W2=>dF W2 S vy (fun i l' ag=>(l'.lookup (q "table")=some (.ref t)∧l'.lookup (q "rows")=some (.ref x1)∧l'.lookup (q "seen")=some (.ref d2)∧l'.lookup (q "own")=some (.ref ow))∧∃vs m o aD aw,ag=((Gz,uA (fR.size:Int) _ _ _)::((ow,listOf fR on)::(d2,o)::(x1,listOf vs m)::(aw++(l5++aa)):List (Addr×Obj)))∧cZ aw vs.toList ((own.zipIdx.take i).foldl (outF cs us) (js own))∧o.IsDictOf (PySem.strKind af gx.gw) aD∧fM aD ((own.zipIdx.take i).foldl (outF cs us) (js own))) ⟨⟨hT,hR,c8,hO⟩,vs,_,_,_,aw,rfl,cy,ho,c9⟩ (fun zz zz zz hJ=>trivial) (fun i vv s l' ag it hi hv hJ S=>?_) (fun s l' ag hJ S=>?_)))
 ·intro Kz Ez
  refine ay hJ fun z1 z2=>bB z1 fun hT hR c8 hO=>eY z2 fun vs m o aD aw z3=>bB z3 fun z4 cy ho c9=>?_
  clear hJ z1 z2 z3
  refine xS1 z4 S fun S=>?_
  obtain⟨tp,rfl⟩:=hv
  have nZ:i<own.length:=by simpa [←mS] using hi
  obtain⟨x,qh⟩:=je nZ
  have mW:=Wh qh
  obtain⟨vx,vJ,tx,rfl⟩:∃vx,fR[i]?=some vx∧∃tx,vx= .str x tx:=by
   have vE:i<fR.size:=by exact TY hi
   refine⟨fR[i],Array.getElem?_eq_getElem vE,?_⟩
   refine aP (eW how (i:=i) (v:=fR[i]) (by simp[vE])) fun x2 t2 z1=>ay z1 fun e2 h2=>?_
   clear z1
   rw[qh] at h2;cases h2;exact⟨t2,e2⟩
  exists dG S ?_
  intro lz dz S
  refine eu S (fun s S=>ec ?_)
  intro Kz
  refine cD<|methodCall_KW ?_
  exists ap S (am hT) ?_
  refine fw C S (Jp _) T.app.app.up.up.up.up.up.i.inst (bj (bj (dP)))<|spliced_more<|Subscript_ ?_
  exists ap S (am hO)<|ap S ah ?_
  refine cL S (bc mH) (Int.natCast_nonneg _) (by exact Ge mR nZ) (x:= .str x tx) (by simpa using vJ)<|dy C S<|Pt C S T.app.app.up.up.up.up.up (hx x (List.mem_of_getElem? qh)) (fun sr eh sn io s S Sx=>dg C.hh S mH (fun Iy oj s S eP W3=>?_))
  refine dF W3 S eP (fun j l' ag=>(l'.lookup (q "table")=some (.ref t)∧l'.lookup (q "rows")=some (.ref x1)∧l'.lookup (q "seen")=some (.ref d2)∧l'.lookup (q "own")=some (.ref ow)∧l'.lookup (q "place")=some (.int (i:Int) tp))∧∃vs m o aD aw,ag=((sr,listOf eh sn)::(io++(it::(Gz,uA (fR.size:Int) _ _ _)::((ow,listOf fR on)::(d2,o)::(x1,listOf vs m)::(aw++(l5++aa)):List (Addr×Obj)))))∧cZ aw vs.toList (((dn cs us x).take j).foldl (ie i) ((own.zipIdx.take i).foldl (outF cs us) (js own)))∧o.IsDictOf (PySem.strKind af gx.gw) aD∧fM aD (((dn cs us x).take j).foldl (ie i) ((own.zipIdx.take i).foldl (outF cs us) (js own)))) ⟨⟨(am hT),(am hR),(am c8),(am hO),ah⟩,vs,_,_,_,aw,rfl,cy,ho,c9⟩ (fun zz zz zz hJ=>by obtain⟨_,_,_,_,_,_,rfl,_⟩:=hJ;exact mH) (fun j mq s l' ag i0 hj ez hJ S=>?_) (fun s l' ag hJ S=>?_)
  ·intro Kz Ez
   refine ay hJ fun z1 z2=>eJ z1 fun hT hR c8 hO Bk=>eY z2 fun vs m o aD aw z3=>bB z3 fun z4 cy ho c9=>?_
   clear hJ z1 z2 z3
   refine xS1 z4 S fun S=>?_
   refine f9 (Sx.get (i:=j) (by simpa using ez)) fun t1 nm k jK gX kA z1=>aO z1 fun z2 dC dR=>?_
   clear z1
   subst z2
   have fh:=bX (cy.len)
   have hle:=xam (cs:=cs) (us:=us) (j:=j) mW
   have dw:vs.size≤sizeLine:=by rw[sizeLine_eq];exact Uw hz fh hle
   have cV:=c9.len (by obtain⟨_,_,_,_,_,_,hn⟩:=ho;exact hn)
   exists dG S ?_
   intro lz dz S
   refine nl C.hh S rfl (bc (List.mem_append_left _ dR)) (fun s S=>ec ?_)
   intro Kz
   refine br ?_
   exists ap S (am ah)<|ap S (aB c8) ?_
   refine uq S (bc (mA (b5 mH))) ho ji (fun s S=>?_)
   exists bV (fun c1=>?_) (fun c1=>?_)
   ·refine ec ?_
    intro Kz
    refine wpAny_Assign_Subscript ?_
    exists wpAny_Constant_bool<|ap S (aB c8)<|ap S (am ah) ?_
    refine jn S (fun zz=>(Up.tail (Up.tail (Up.app (Up.tail (Up.tail (Up.tail Up.head))))))) ho (by rw[sizeLine_eq];exact Uv hz hle cV) (fun o2 s fg S=>?_)
    refine ec ?_
    intro Kz
    refine wpAny_Expr<|methodCall_KW ?_
    exists ap S (aB hR) ?_
    refine ft S (bc (mA (ch mH))) ?_
    exists Tuple_<|bQ S (am ah) ?_
    refine spliced_more ?_
    exists wpAny_BinOp<|ap S (aB Bk)<|ap S ah ?_
    refine At S (fun tq s S=>spliced_none<|ea S aG (fun x4 s S i2=>fb S (Up.tail (Up.tail (Up.tail (Up.app (Up.tail (Up.tail (Up.tail (Up.tail Up.head)))))))) dw (fun s S=>wpAny_execs_nil<|wpAny_execs_nil ?_)))
    have S:=St.perm (ag:=i0::(sr,listOf eh sn)::(io++(it::(Gz,_)::((ow,listOf fR on)::(d2,o2)::(x1,listOf (vs.push (.ref x4)) (m+1))::((((x4,_)::aw))++(l5++aa)):List (Addr×Obj))))) S (pc fun f=>by simp only[List.countP_append,List.countP_cons,List.countP_nil];ac_rfl)
    refine aN (aR S (iL (aB hT) (aB hR) (aB c8) (aB hO) (aB Bk)) (iy (e:=((x4,_)::aw)) (bW rfl ?_ fg ?_)))
    ·rw[dq _ _ dC,Bz,AR c9 c1];exact(cy.mono fun zz h=>mT h).push mH
    rw[dq _ _ dC,Bz,AR c9 c1];exact c9.add
   ·refine wpAny_execs_nil<|wpAny_execs_nil<|aN (aR S (iL (aB hT) (aB hR) (aB c8) (aB hO) (aB Bk)) (iy (e:=aw) (bW rfl ?_ ho ?_)))
    ·rw[dq _ _ dC,Bz,AQ c9 c1];exact cy
    rw[dq _ _ dC,Bz,AQ c9 c1];exact c9
  refine ay hJ fun z1 z2=>eJ z1 fun hT hR c8 hO Bk=>eY z2 fun vs m o aD aw z3=>bB z3 fun z4 cy ho c9=>?_
  clear hJ z1 z2 z3
  refine Wq z4 S fun S=>?_
  have cV:=bX (Sx.len)
  rw[show(dn cs us x).take eh.size=dn cs us x from List.take_of_length_le (by exact fK cV)] at cy c9
  refine wpAny_execs_nil ?_
  replace S:=S.sub (.cons _ (List.sublist_append_right _ _))
  refine aN (aR S (bW hT hR c8 hO) (iy (e:=aw) (bW rfl ?_ ho ?_)))
  ·rw[dq _ _ mW];exact cy
  rw[dq _ _ mW];exact c9
 refine ay hJ fun z1 z2=>bB z1 fun hT hR c8 hO=>eY z2 fun vs m o aD aw z3=>bB z3 fun z4 cy ho c9=>?_
 clear hJ z1 z2 z3
 refine Wq z4 S fun S=>?_
 have j8:own.zipIdx.length=own.length:=List.length_zipIdx
 rw[List.take_of_length_le (by rw[j8];exact OL mS)] at cy c9
 have fh:=bX (cy.len)
 have fh:vs.size=(hY cs us own).length:=fh
 replace S:=S.drop
 refine ec ?_
 intro Kz
 refine wpAny_Expr<|methodCall_KW ?_
 exists ap S hR ?_
 refine kf_method S.N (bc mH) PyProof.Rows.slot_list_sort PySem.F.type_list_sort<|O9<|kws_cons<|xhE (g:=fun o'=>(ow,listOf fR on)::(d2,o)::(x1,listOf vs m)::(aw++(l5++g o'))) C S (ZY _) (H1.mem fun c' oc vs hm zz zz=>(b5 (mA (mA hm)))) (fun o'=>(Up.tail (Up.tail (Up.tail (Up.app (Up.app (u o'))))))) rfl rfl (uX (by kernel_rfl)) (fun fl fo c' oc nH ct iU BH da s hfo S fH gT Bm mG SK=>kws_nil ?_)
 show wpAny _ _ (call (.builtin "list.sort") [.ref x1] [(Str.ofString "key",.ref fl)]) _ _ _
 have xdF:fl≠x1:=Nat.ne_of_gt (SK (_,listOf vs m) (bc mH))
 have xdG:c'≠x1:=fun e=>by
  subst e
  have:=S.uniq (mT fH) (mT (mA (bc mH)))
  subst this;cases gT
 refine xhT (aK:=hY cs us own) (n:=m) (g:=fun o'=>(fl,fo)::(BH++((ow,listOf fR on)::(d2,o)::(x1,o')::(aw++(l5++g (tabObj da)))))) (C.weak (A2:=dp+1) (GJ:=un+3+1) (by exact xgC) (by exact xgB)) S (fun o'=>(Up.tail (Up.app (Up.tail (Up.tail Up.head))))) cy (fun zz h=>(mT (mA (b5 (List.mem_append_left _ h))))) (by rw[fh];exact xgA hz) (fun t3 x3 k3 a3 b3 c3 Pm s' ag keep ht C S=>?_) (fun out m2 gG s S IG qi=>?_)
 ·refine xcA (em:=[(q "row",.ref t3)]) rfl (hfo▸keep _ mH xdF) (keep _ (mT fH) xdG) gT Bm (by rfl) (by intro y hy;obtain rfl:=List.mem_singleton.mp hy;kernel_rfl) rfl rfl rfl (lb (by kernel_rfl)) C S (fun g1 L2 s1 C S=>?_)
  refine Subscript_<|lj S rfl ah ?_ (hk:=rfl) (hl:=(by kernel_rfl))
  exists bf S (fun tq s S=>?_)
  refine li S ht (by decide) (by decide) (x:= .int k3 b3) rfl<|aT S (fun S=>?_)
  exact⟨b3,rfl,S⟩
 have lR:=IG.len
 have dQ:=qi.length_eq
 rw[Array.length_toList] at lR
 have h1:1≤(hY cs us own).length:=xan hx B
 have nY:out.size- 1<out.size:=by exact xgz lR dQ h1
 refine f9 (IG.get (i:=out.size- 1) (v:=out[out.size- 1]) (by simp[nY])) fun t1 one k jK gX kA z1=>aO z1 fun oh dC dR=>?_
 clear z1
 have dw:out.size≤sizeLine:=by rw[sizeLine_eq];exact xgy hz lR dQ
 refine ec ?_
 intro Kz
 refine wpAny_Expr<|methodCall_KW ?_
 exists ap S hR ?_
 refine ft S (mT (mA (bc mH)))<|Tuple_ ?_
 exists be S (fun fe s S=>?_)
 refine spliced_more ?_
 exists wpAny_BinOp ?_
 refine Subscript_<|Subscript_ ?_
 exists ap S hR<|wpAny_BinOp ?_
 refine eU C S (eO _) eL ?_
 exists aU S hR ?_
 refine eV S (mT (mA (bc mH))) dw (fun tq s S=>?_)
 exists bf S (fun ej s S=>?_)
 refine Pj S (fun tq s S=>?_)
 refine cL S (mT (mA (bc mH))) (by exact Un nY) (by rw[sizeLine_eq] at dw;exact xgx dw) (x:=out[out.size- 1]) (by rw[show((out.size:Int)- 1).toNat=out.size- 1 by exact Um];simp[nY]) ?_
 rw[oh]
 exists bf S (fun ed s S=>?_)
 refine li S (((mT (mA (b5 (List.mem_append_left _ dR)))))) (by decide) (by decide) (x:= .int k gX) rfl ?_
 exists bf S (fun mj s S=>?_)
 refine At S (fun ts s S=>spliced_none<|ea S aG (fun xt s S lxt=>fb S (Up.tail (Up.tail (Up.app (Up.tail (Up.tail Up.head))))) dw (fun s S=>ec ?_)))
 intro Kz
 refine wpAny_Return_some ?_
 exists ap S hR ?_
 refine aT S (fun S=>?_)
 refine ret x1 _ _ _ gG (k+1) da s (S.perm (ag:=(x1,listOf (out.push (.ref xt)) (m2+1))::(((xt,bK #[.str (q "ANY") fe,.int (k+1) ts] 0)::(fl,fo)::(BH++((ow,listOf fR on)::(d2,o)::(aw++l5))))++g (tabObj da))) (pc fun f=>by simp only[List.countP_append,List.countP_cons,List.countP_nil];ac_rfl)) ?_ qi ?_
 ·rw[Array.toList_push]
  exact cZ.Qo (IG.mono fun zz h=>mT (mT (mA (bc (List.mem_append_left _ h))))) (.cons mH .nil)
 exact mG.mem fun c2 m9 vs2 hm hd2 zz=>by
  simp only[List.mem_append,List.mem_cons] at hm ⊢
  rcases hm with h|h|h|h|h|h|h
  ·simp[h]
  ·simp[h]
  ·simp[h]
  ·injection h with h1 h2;subst h2;cases hd2
  ·simp[h]
  ·simp[h]
  ·simp[h]
end
noncomputable abbrev vU:Str:=q "class_supers.<locals>.<lambda>"
noncomputable abbrev v9:Pos:=⟨786,4,787,54⟩
noncomputable abbrev wa:Str:=q "generator.<locals>.make"
noncomputable def isA(cs:List (Str×CA))(us:List (Str×List Str))(own:List Str)(x:Str):Bool:=(hY cs us own).any (·.1==x)||q "ANY"==x
theorem xh3{gG:List (Str×Int)}{k:Int}(h:gG.Perm aK):(gG++[(q "ANY",k)]).any (·.1==x)=(aK.any (·.1==x)||q "ANY"==x):=by
 rw[List.any_append]
 have e:gG.any (·.1==x)=aK.any (·.1==x):=by
  rw[Bool.eq_iff_iff,List.any_eq_true,List.any_eq_true]
  constructor
  ·rintro⟨y,hy,e⟩;exact⟨y,h.mem_iff.mp hy,e⟩
  ·rintro⟨y,hy,e⟩;exact⟨y,h.mem_iff.mpr hy,e⟩
 rw[e];simp
theorem W7{α:Type}{f:α→Bool}{l:List α}{i:Nat}{a:α}(h:l[i]?=some a)(hf:f a=true):l.any f=true:=List.any_eq_true.mpr ⟨a,List.mem_of_getElem? h,hf⟩
structure dI(af:Program)(w:World)(W:List Addr)(aa:List (Addr×Obj))(i di gl:Addr)(F:List Addr)(b:Bool)(cs:List (Str×CA))(us:List (Str×List Str)):Prop where
 y:Sys af w W aa i di gl F b cs us
 w1:429∈W
 w2:1077∈W
 t1:∃ps,(429,tabObj ps)∈aa∧dX aa oD vU ps
 t2:∃ps,(1077,tabObj ps)∈aa∧dX aa v9 wa ps
structure cg(af:Program)(w:World)(W:List Addr)(aa:List (Addr×Obj))(F:List Addr)(i di gl:Addr)(W':List Addr)(ag:List (Addr×Obj))(F':List Addr)(b:Bool)(cs:List (Str×CA))(us:List (Str×List Str)):Prop where
 g:Wx W W' aa
 k:Kp (429::1077::di::F) aa ag
 y:dI af w W' ag i di gl F' b cs us
 o:∀p∈aa,∃o,(p.1,o)∈ag
 f:∀a∈F',a∈F∨∀p∈aa,p.1≠a
theorem dI.mem{af w W aa ag i di gl F b cs us}(Y:dI af w W aa i di gl F b cs us)(h:∀p∈aa,p∈ag):dI af w W ag i di gl F b cs us:=
 ⟨Y.y.mem h,Y.w1,Y.w2,let ⟨ps,a,t⟩:=Y.t1;⟨ps,h _ a,t.mem fun zz zz zz m zz zz=>h _ m⟩,let ⟨ps,a,t⟩:=Y.t2;⟨ps,h _ a,t.mem fun zz zz zz m zz zz=>h _ m⟩⟩
theorem dI.up{af w W aa i di gl F b cs us}{p:Addr×Obj}(Y:dI af w W aa i di gl F b cs us):dI af w W (p::aa) i di gl F b cs us:=Y.mem fun zz h=> .tail _ h
theorem dI.app{af w W aa aw i di gl F b cs us}(Y:dI af w W aa i di gl F b cs us):dI af w W (aw++aa) i di gl F b cs us:=Y.mem fun zz h=>mA h
theorem dI.iz{af w W aa i di gl F b cs us}(Y:dI af w W aa i di gl F b cs us):∀a∈429::1077::di::F,a∈W:=fun a h=>by
 rcases List.mem_cons.mp h with rfl|h
 ·exact Y.w1
 ·rcases List.mem_cons.mp h with rfl|h
  ·exact Y.w2
  ·exact Y.y.iz a h
theorem cg.pre{af w W vW aa F i di gl W' ag F' b cs us}(P:cg af w W aa F i di gl W' ag F' b cs us)(h:∀p∈vW,p∈aa):cg af w W vW F i di gl W' ag F' b cs us:=
 ⟨⟨P.g.1,fun a m=>(P.g.2 a m).imp id fun x p hp=>x p (h p hp)⟩,fun p hp=>P.k p (h p hp),P.y,fun p hp=>P.o p (h p hp),fun a m=>(P.f a m).imp id fun x p hp=>x p (h p hp)⟩
theorem cg.mem{af w W aa F i di gl W' ag bD F' b cs us}(P:cg af w W aa F i di gl W' ag F' b cs us)(h:∀p∈ag,p∈bD):cg af w W aa F i di gl W' bD F' b cs us:=
 ⟨P.g,fun p hp n=>h _ (P.k p hp n),P.y.mem h,fun p hp=>let ⟨o,ho⟩:=P.o p hp;⟨o,h _ ho⟩,P.f⟩
theorem cg.up{af w W aa F i di gl W' ag F' b cs us}{p:Addr×Obj}(P:cg af w W aa F i di gl W' ag F' b cs us):cg af w W aa F i di gl W' (p::ag) F' b cs us:=P.mem fun zz h=> .tail _ h
theorem cg.app{af w W aa F i di gl W' ag aw F' b cs us}(P:cg af w W aa F i di gl W' ag F' b cs us):cg af w W aa F i di gl W' (aw++ag) F' b cs us:=P.mem fun zz h=>mA h
theorem cg.trans{af w W aa F i di gl W' ag F' b cs us mw bD uP b' gR eX}(P:cg af w W aa F i di gl W' ag F' b cs us)(P':cg af w W' ag F' i di gl mw bD uP b' gR eX):cg af w W aa F i di gl mw bD uP b' gR eX:=
 ⟨P.g.trans P'.g P.o,fun p hp n=>P'.k p (P.k p hp n) fun m=>by
   rcases List.mem_cons.mp m with e|m
   ·exact n (by rw[e];exact .head _)
   ·rcases List.mem_cons.mp m with e|m
    ·exact n (by rw[e];exact .tail _ (.head _))
    ·rcases List.mem_cons.mp m with e|m
     ·exact n (by rw[e];exact .tail _ (.tail _ (.head _)))
     ·rcases P.f _ m with x|x
      ·exact n (.tail _ (.tail _ (.tail _ x)))
      ·exact x p hp rfl,
  P'.y,fun p hp=>let ⟨o,ho⟩:=P.o p hp;P'.o (p.1,o) ho,fun a m=>by
   rcases P'.f a m with x|x
   ·exact P.f a x
   ·exact .inr fun p hp e=>let ⟨o,ho⟩:=P.o p hp;x (p.1,o) ho e⟩
theorem cg.refl{af w W aa F i di gl b cs us}(Y:dI af w W aa i di gl F b cs us):cg af w W aa F i di gl W aa F b cs us:=
 ⟨.refl,fun p h zz=>h,Y,fun p h=>⟨p.2,h⟩,fun a m=> .inl m⟩
section
variable {W':List Addr} {i di gl:Addr} {F F':List Addr} {b:Bool} {cs:List (Str×CA)}
theorem dI.on(S:St ai ae L s l aa)(Y:dI af w W aa i di gl F b cs us):dI af w W aa i di gl F b cs us:=Y
theorem Sys.Jv(S:St ai ae L s l aa)(Y:Sys af w W aa i di gl F b cs us){P:Addr}{ps:Array Value}(h:(P,tabObj ps)∈aa):P∉di::F:=Sys.nd S Y h fun zz zz e=>by cases e
theorem dX.post(S:St ai ae L s l aa)(Y:Sys af w W aa i di gl F b cs us)(k:Kp (di::F) aa ag){Q:Str}{ps:Array Value}(h:dX aa aI Q ps):dX ag aI Q ps:=
 h.mem fun c' oc vs m hd zz=>k _ m (Sys.nd S Y m fun zz zz e=>by rw[hd] at e;cases e)
theorem ee.two(S:St ai ae L s l aa)(Y:dI af w W aa i di gl F b cs us){gR eX b'}(P:ee af w W aa F i di gl W' ag F' b' gR eX):cg af w W aa F i di gl W' ag F' b' gR eX:=
 ⟨P.g,fun p hp n=>P.k p hp fun m=>n (.tail _ (.tail _ m)),⟨P.y,P.g.1 _ Y.w1,P.g.1 _ Y.w2,
  let ⟨ps,a,t⟩:=Y.t1;⟨ps,P.k _ a (Sys.Jv S Y.y a),t.post S Y.y P.k⟩,let ⟨ps,a,t⟩:=Y.t2;⟨ps,P.k _ a (Sys.Jv S Y.y a),t.post S Y.y P.k⟩⟩,P.o,P.f⟩
theorem Sys.upd(S:St ai ae L s l aa)(Y:Sys af w W aa i di gl F b cs us){P:Addr}{ps:Array Value}{o':Obj}(h:(P,tabObj ps)∈aa)(hP:P∈W)(u:Up P (tabObj ps) o' aa ag):Sys af w W ag i di gl F b cs us:=by
 have nd:=Sys.Jv S Y h
 have kp:Kp W aa ag:=fun p hp hn=>u.keep hp fun e=>hn (e▸hP)
 have key:∀a o,(a,o)∈aa→∃o,(a,o)∈ag:=fun a o m=>by
  have:a∈ag.map (·.1):=by rw[u.keys];exact ka m
  refine aS (List.mem_map.mp this) fun p z1=>ay z1 fun hp e=>?_
  clear z1
  exact⟨p.2,by rw[←e];exact hp⟩
 refine cB Y.ex fun od al lim s4 z1=>bB z1 fun m hA hI T=>?_
 clear z1
 refine⟨Y.hi.mono kp,Y.eZ,⟨od,al,lim,s4,u.keep m fun e=>nd (by rw[←e];exact .head _),hA,hI,?_⟩,fun a ha=>by obtain⟨o,ho⟩:=Y.hW a ha;exact key a o ho,Y.hF⟩
 cases T with
 |u=>exact .u
 |@i st mt t dc du cs us a T h1 h2 h3=>
  exact .i (a.mono kp) ⟨T.i.mono kp,T.c.mono (fun zz zz zz h=>h.mono kp) fun zz h=>u.keep h fun e=>nd (by rw[←e];exact .tail _ (.head _)),T.u.mono (fun zz zz zz h=>h.mono kp) fun zz h=>u.keep h fun e=>nd (by rw[←e];exact .tail _ (.tail _ (.head _))),T.z⟩ h1 h2 h3
theorem ee.xjj(S:St ai ae L s l aa)(Y:dI af w W aa i di gl F b cs us){s1:Shared}{l1:List (Str×Value)}{L1:Addr}{h1:Heap}{s01:Shared}(S1:St s01 h1 L1 s1 l1 ag){b'}(P:ee af w W aa F i di gl W' ag F' b' cs us){ps da:Array Value}{aw cf:List (Addr×Obj)}(h:(429,tabObj ps)∈ag)(jw:dX ag oD vU ps)(u:Up 429 (tabObj ps) (tabObj da) ag cf)(hT:dX (aw++cf) oD vU da):
  cg af w W aa F i di gl W' (aw++cf) F' b' cs us:=by
 have P2:=P.two S Y
 refine⟨P.g,fun p hp n=>mA (u.keep (P2.k p hp n) fun e=>n (by rw[show p.1=429 from e];exact .head _)),⟨(P.y.upd S1 h P2.y.w1 u).app,P2.y.w1,P2.y.w2,⟨da,mA u.jE,hT⟩,?_⟩,fun p hp=>?_,P.f⟩
 ·refine aS P2.y.t2 fun oS z1=>ay z1 fun a t=>?_
  clear z1
  refine⟨oS,mA (u.keep a (show(1077:Addr)≠429 by decide)),t.mem fun c' oc vs m hd hv=>mA (u.keep m fun e=>?_)⟩
  have e:c'=429:=e
  subst e
  have:=S1.uniq m h
  subst this
  injection hd with hd
  obtain⟨t',hv⟩:=hv
  rw[←hd] at hv
  exact jw.no hv
 ·obtain⟨o,ho⟩:=P.o p hp
  have:p.1∈cf.map (·.1):=by rw[u.keys];exact(ka ho:(p.1,o).1∈_)
  refine aS (List.mem_map.mp this) fun p' z1=>ay z1 fun ID e=>?_
  clear z1
  exact⟨p'.2,by rw[←e];exact mA ID⟩
theorem Up.ex(S:St ai ae L s l aa){d:Addr}(h:(d,o)∈aa):∃g:Obj→List (Addr×Obj),∀o',Up d o o' aa (g o'):=by
 refine aS (Up.OB (o':=o) h) fun e9 z1=>aO z1 fun u z2 z3=>?_
 clear z1
 refine aP ((u.iK S.D).split) fun pre post z1=>bB z1 fun e1 z2 a b=>?_
 clear z1
 exact⟨fun o'=>pre++(d,o')::post,fun o'=>by rw[e1];exact Up.app .head⟩
end
section
theorem xi0{t dc du:Addr}{cs:List (Str×CA)}{v:Addr}{own:List Str}{ps:Array Value}{g:Obj→List (Addr×Obj)}{tn:Tok}(C:Cx gx aH A ae aE az L (dp+8) (un+24))(S:St ai ae L s l aa)(T:Tab af gx.gw W aa t dc du cs us)(B:dr W aa v own)(hx:∀x∈own,(x==q "ANY")=false)(hz:(hY cs us own).length≤60)(H1:dX aa oD vU ps)(u:∀o',Up 429 (tabObj ps) o' aa (g o'))(ret:∀aw da s',St ai ae L s' l (aw++g (tabObj da))→dX (aw++g (tabObj da)) oD vU da→R (.ok (.ret (.bool (isA cs us own nm)))) s'):
  codeAny (model af gx.gw) A (.call (.ref 441) ⟨[.ref t,.ref v,.str nm tn],[]⟩) R s:=by
 refine xcm C S (fun g1 L1 s C S=>bo ?_)
 intro Kz Ez
 refine ec ?_
 intro Kz
 refine cD<|aY C S (xda _) ?_
 exists bQ S (aB ah)<|aU S (am ah) ?_
 refine bh C S<|xiZ C S T B hx hz H1 u (fun r vs n aw gG k da s S cy qi mG=>?_)
 have Sb:=xh3 (k:=k) (x:=nm) qi
 refine dg C.hh S mH (fun Ix oi s S hO W=>?_)
 refine dF W S hO (fun i l' ag=>l'.lookup (q "name")=some (.str nm tn)∧ag=((r,listOf vs n)::(aw++g (tabObj da)):List (Addr×Obj))∧((gG++[(q "ANY",k)]).take i).any (·.1==nm)=false) ⟨ah,rfl,rfl⟩ (fun zz zz zz hJ=>by obtain⟨_,rfl,_⟩:=hJ;exact mH) (fun i vv s l' ag it hi hv hJ S=>?_) (fun s l' ag hJ S=>?_)
 ·intro Kz Ez
  refine aO hJ fun hN z1 hf=>?_
  clear hJ
  refine xS1 z1 S fun S=>?_
  refine f9 (cy.get (i:=i) (by simpa using hv)) fun t1 x1 k1 jK gX kA z1=>aO z1 fun z2 dC dR=>?_
  clear z1
  subst z2
  exists dG S ?_
  intro lz dz S
  refine nl C.hh S rfl (bc (List.mem_append_left _ dR)) (fun s S=>ec ?_)
  intro Kz
  refine br ?_
  exists ap S (am ah)<|ap S (aB hN)<|eq_str<|bV (fun c1=>?_) (fun c1=>?_)
  ·refine ec ?_
   intro Kz
   refine wpAny_Return_some ?_
   exists wpAny_Constant_bool ?_
   refine aT S (fun S=>?_)
   have e:isA cs us own nm=true:=by unfold isA;rw[←Sb];exact W7 dC c1
   rw[←e];exact ret _ da s (S.sub (.cons _ (.cons _ (List.Sublist.refl _)))) mG
  ·refine wpAny_execs_nil<|wpAny_execs_nil<|aN (bW S (aB hN) rfl ?_)
   rw[VP dC,hf,c1];rfl
 refine aO hJ fun hN z1 hf=>?_
 clear hJ
 refine Wq z1 S fun S=>?_
 have hl:=bX (cy.len)
 rw[List.take_of_length_le (by exact fK hl)] at hf
 refine ec ?_
 intro Kz
 refine wpAny_Return_some ?_
 exists wpAny_Constant_bool ?_
 refine aT S (fun S=>?_)
 have e:isA cs us own nm=false:=by unfold isA;rw[←Sb];exact hf
 rw[←e];exact ret _ da s S.drop mG
end
section
theorem xiv{i di gl:Addr}{F:List Addr}{b:Bool}{cs:List (Str×CA)}{ac:Addr}{ak:Nat}{ta tb:Addr}{c1 c2:Nat}{va vb:Addr}{own:List Str}{c:Str}{ev:Value}(C:Cx gx aH A ae aE az L (dp+9) (un+27))(S:St ai ae L s l aa)(Y:dI af gx.gw W aa i di gl F b cs us)(dB:(ac,listOf #[.ref ta,.ref tb] ak)∈aa)(ia:(ta,bK #[.none,.ref va] c1)∈aa)(kZ:(tb,bK #[.none,.ref vb] c2)∈aa)(B:dr W aa va own)(Vb:cS W aa vb c)(hx:∀x∈own,(x==q "ANY")=false)(hz:(hY cs us own).length≤60)(ret:∀W' ag F' v s',St ai ae L s' l ag→cg af gx.gw W aa F i di gl W' ag F' b cs us→lv ag v (isA cs us own c)→R (.ok (.ret (.ref v))) s'):
  codeAny (model af gx.gw) A (.call (.ref 1120) ⟨[.ref i,.ref ac,ev],[]⟩) R s:=by
 refine xbH C S (fun g1 L1 s C S=>bo ?_)
 intro Kz Ez
 refine ec ?_
 intro Kz
 refine aX<|aY C S (vp _) ?_
 exists bQ S (am ah) ?_
 refine spliced_more ?_
 exists List_<|be S (fun bp s S=>cz S (fun bO s S=>?_))
 refine dm S aG (fun x3 s S fj=>dy C S<|AA (ps:=[(none,.ref va),(none,.ref vb)]) C S mH (mT dB) (.cons _ _ (.cons _ _ .nil)) (.cons ⟨ta,c1,.none,rfl,(mT ia),rfl⟩ (.cons ⟨tb,c2,.none,rfl,(mT kZ),rfl⟩ .nil)) aG xid xh8 aG (fun r vs vk aw s S ci=>?_))
 have ez:vs=#[.ref va,.ref vb]:=by
  apply Array.toList_inj.mp
  rw[ci]
  kernel_rfl
 subst ez
 refine aW S (fun s S=>ec ?_)
 intro Kz
 refine br<|Subscript_ ?_
 exists ap S ah<|bf S (fun ej s S=>?_)
 refine cL S mH (by decide) (by decide) (x:= .ref va) rfl<|wpAny_Constant_none<|is_ref_none ?_
 exists ei ?_
 refine wpAny_execs_nil<|ec ?_
 intro Kz
 refine aX<|Attribute_any_<|aY C S (pW _) ?_
 exists aU S (aV ah) ?_
 refine bh C S ?_
 have SB:=S
 have Y2:=dI.on S Y.up.app.up
 have Y:=Y2.y
 have Ju:=Sys.nd S Y mH (fun zz zz e=>by cases e)
 have B1:=dr.on S B.up.app.up
 have G1:=cS.on S Vb.up.app.up
 refine uF C S Y (fun W1 e9 st mt t dc du s S P1 I1 T=>?_)
 have qv:=P1.k _ mH Ju
 replace B:=B1.step P1.k Y.iz P1.g
 replace Vb:=G1.step P1.k Y.iz P1.g
 have S1:=S
 refine aS ((P1.two SB Y2).y.t1) fun nf z1=>ay z1 fun mU jw=>?_
 clear z1
 obtain⟨gt,ut⟩:=Up.ex S mU
 refine gU C S (pO _) I1.inst (aB ah) bA (fun s S=>aW S (fun s S=>ec ?_))
 intro Kz
 refine br<|Subscript_ ?_
 exists ap S (am ah)<|bf S (fun ed s S=>?_)
 refine cL S qv (by decide) (by decide) (x:= .ref vb) rfl<|wpAny_Constant_none<|is_ref_none ?_
 exists ei ?_
 refine wpAny_execs_nil<|ec ?_
 intro Kz
 refine wpAny_Return_some<|aY C S (Be _)<|spliced_more<|aY C S (xdb _) ?_
 exists bQ S ah ?_
 refine spliced_more<|Subscript_ ?_
 exists ap S (am ah)<|bf S (fun mj s S=>?_)
 refine cL S qv (by decide) (by decide) (x:= .ref va) rfl<|spliced_more<|aY C S (nQ _)<|spliced_more<|Subscript_ ?_
 exists ap S (am ah)<|bf S (fun ml s S=>?_)
 refine cL S qv (by decide) (by decide) (x:= .ref vb) rfl ?_
 exists cz S (fun gH s S=>?_)
 refine bh C S<|cB Vb fun z1 ivb xvb z2 z3=>ay z3 fun GZ GX=>?_
 clear Vb z3
 refine pe C S GZ.inst GX.1 (fun s S=>dy C S<|xi0 C S T B hx hz jw ut (fun ext3 O3 s S mG=>dy C S<|GH C S (fun fx mD nK jt kQ kP fn s S nV fl=>?_)))
 have FV:=lv.mk S nV
 refine aT S (fun S=>?_)
 exact ret W1 _ [dc,du] fx s S (((ee.xjj SB Y2 S1 P1 mU jw (ut _) mG).pre fun zz h=>mT (mA (mT (h)))).up.up.up) FV
end
noncomputable abbrev fA(aE:List Env):List Addr:=aE.filterMap (·.frame)
structure Bs(gx:Gx):Prop where
 X:(KF gx.gw.params).In gx.gh
 T:Top gx.gp gx.gl gx.gm gx.gg gx.gb gx.gh
section
theorem Cx.turn{g':Heap}(C:Cx gx aH A ae aE az L dp un)(Z:Bs gx)(t:KtsTurn (fA aE) ae g'):Cx gx aH A g' aE az L dp un:=
 have st:gx.gh.StaysIn g':=fun b o e=>t.other b o (C.B.stays b o e) (fun hm=>by have:=(C.B.frames.mem hm).1;rw[e] at this;cases this)
 ⟨⟨C.B.stack,st,C.B.frames.of_keeps fun b o e hn=>let ⟨sl,e'⟩:=t.up e;⟨_,e',rfl⟩⟩,Z.X.keeps st,Z.T.keeps st,C.hA,C.hf,C.hk,C.hh,C.hd,C.hu⟩
theorem Cx.fs(C:Cx gx aH A ae aE az L dp un):(az::aE).filterMap (·.frame)=L::fA aE:=by
 rw[List.filterMap_cons,C.hf]
theorem St.slots(C:Cx gx aH A ae aE az L dp un)(S:St ai ae L s l aa){h':Heap}(ho:∀b,b∉L::fA aE→∀o,s.heap.get? b=some o→h'.get? b=some o)(hf:∀b o,s.heap.get? b=some o→b∈L::fA aE→∃sl,h'.get? b=some {o with slots:=sl}):
  ∃g',KtsTurn (fA aE) ae g'∧St ai g' L {s with heap:=h'} l aa:=by
 have nL:ae.get? L=none:=kts_self S.F
 obtain⟨t,k⟩:=kts_turn_at (fs:=fA aE) (g:=ae) (h:=h') (fun b hb=>let ⟨_,o,e,_⟩:=C.B.frames.mem hb;⟨o,e⟩)
  (fun b o e hn=>ho b (fun hm=>by
   rcases List.mem_cons.mp hm with rfl|hm
   ·rw[nL] at e;cases e
   ·exact hn hm) o (S.F.keep b o e))
  (fun b o e hb=>hf b o (S.F.keep b o e) (.tail _ hb))
 refine iu (bC t ⟨⟨?_,k,by rw[t.size];exact S.F.above⟩,fun q hq=>?_,S.D,by rw[S.R]⟩)
 ·refine cQ S.F.ns fun o es ep z1=>aO z1 fun e hd r=>?_
  clear z1
  obtain⟨sl,e'⟩:=hf L o e (.head _)
  exact eK (b:=es) (c:=ep) (aR e' hd r)
 ·have z:=S.N q hq
  refine⟨ho q.1 (fun hm=>?_) _ z.1,z.2.1,t.none_ _ z.2.2⟩
  rcases List.mem_cons.mp hm with e|hm
  ·exact z.2.1 e
  ·refine ay (C.B.frames.mem hm) fun z1 z2=>aS z2 fun o z3=>ay z3 fun e z4=>?_
   clear z2 z3
   rw[z.2.2] at e;cases e
theorem Cx.xcV(C:Cx gx aH A ae aE az L dp un)(S:St ai ae L s l aa):s.heap.FunFrames gx.gh (az::aE):=by
 have xdH:gx.gh.get? L=none:=by
  cases hq:gx.gh.get? L with
  |none=>rfl
  |some o=>exact absurd (Nat.lt_of_lt_of_le (Heap.lt_size (C.B.stays L o hq)) S.F.above) (Nat.lt_irrefl _)
 refine .cons (by rw[C.hk];decide) C.hf S.F.ns xdH (C.B.frames.of_keeps fun b o e zz=>⟨o,S.F.keep b o e,rfl⟩)
theorem Wc(C:Cx gx aH A ae aE az L dp un){e:Addr}{oe:Obj}{vs:Array Value}{head:Value}{xdn:Bool}{aJ:List (Addr×Obj)}{Q:Unit→Shared→Prop}(S:St ai ae L s l ((e,oe)::aJ))(hd:oe.data= .fields vs)(qk:1<vs.size)(h:∀g' T na oT ts s',KtsTurn (fA aE) ae g'→St ai g' L s' l ((e,na)::(T,oT)::aJ)→na.cls=oe.cls→na.dict=oe.dict→na.data= .fields (vs.setIfInBounds 1 (.ref T))→oT.data= .fields ts→3<ts.size→ts[3]?=some (rawInt L)→Q () s'):
  wpAny M A (do let a←frameOf az;let pl←entryPlaceOf L xdn;let b←EntryCells.newEntry head a .none (rawInt L) .none pl;setField (.ref e) 1 b) Q E s:=by
 refine wpAny_bind (wpAny_frameOf_fun C.hA (C.xcV S) C.hf fun dD IJ=>?_)
 rw[C.fs] at IJ
 refine aS (S.slots C (fun b hb o e=>(IJ.2.1 b hb).trans e) (fun b o e zz=>IJ.2.2 b o e)) fun g' z1=>ay z1 fun t S1=>?_
 clear z1
 refine wpAny_bind (wpAny_entryPlaceOf fun pl dQ=>?_)
 unfold EntryCells.newEntry newFields
 refine wpAny_bind (wpAny_newObj_type ?_ (dQ.sizeOk5 _ _ _ _ _))
 have S2:=S1.push {cls:= .type "traceback",dict:=none,data:= .fields ([head,.ref L,.none,rawInt L,.none]++(if pl.isEmpty then List.replicate 6 Value.none else pl)).toArray} (tk:=s.toks)
 generalize hT:({s with heap:=dD}:Shared).heap.objs.size=T at S2
 have he:=(S2.N (e,oe) (mT mH)).1
 refine wpAny_setField he hd qk ?_
 have S3:=(S2.perm (List.Perm.swap _ _ _)).top (h':=(dD.push {cls:= .type "traceback",dict:=none,data:= .fields ([head,.ref L,.none,rawInt L,.none]++(if pl.isEmpty then List.replicate 6 Value.none else pl)).toArray}).update e (Obj.mapFields (·.setIfInBounds 1 (Value.ref T))))
  (Heap.SameBut.update _ e _) (Heap.get?_update_self _ he (Obj.isFreed_of_fields (Obj.data_mapFields hd _)))
 refine h g' T _ _ _ _ t S3 (Obj.cls_mapFields _ _) ?_ (Obj.data_mapFields hd _) rfl ?_ ?_
 ·obtain⟨a1,a2,a3,a4⟩:=oe;cases a3<;>rfl
 ·simp only[List.size_toArray,List.length_append,List.length_cons,List.length_nil];exact xeS
 ·first|(simp;done)|(rcases dQ with rfl|⟨_,_,_,_,_,_,_,rfl⟩<;>simp)
end
def nz(ai:Shared)(ae:Heap)(L:Addr)(s:Shared)(l:List (Str×Value))(aa:List (Addr×Obj))(e:Addr)(bz:Str):Prop:=
 ∃oe de od tk t aJ,St ai ae L s l ((e,oe)::(de,od)::(aJ++aa))∧oe.cls= .ref 117∧oe.dict=some de∧oe.data= .fields #[.ref t,.none,.none,.none,.bool false,.none]∧bG od [(q "message",.str bz tk)]
def dN(ai:Shared)(ae:Heap)(L:Addr)(s:Shared)(l:List (Str×Value))(aa:List (Addr×Obj))(e:Addr)(bz:Str)(fl:Value):Prop:=
 ∃oe de vs T oT ts od tk aJ,St ai ae L s l ((e,oe)::(T,oT)::(de,od)::(aJ++aa))∧oe.cls= .ref 117∧oe.dict=some de∧oe.data= .fields vs∧1<vs.size∧vs[1]?=some (.ref T)∧oT.data= .fields ts∧3<ts.size∧ts[3]?=some fl∧bG od [(q "message",.str bz tk)]
def GW(ai:Shared)(ae:Heap)(L:Addr)(s:Shared)(l:List (Str×Value))(aa:List (Addr×Obj))(e:Addr)(bz:Str):Prop:=
 nz ai ae L s l aa e bz∨dN ai ae L s l aa e bz .none∨dN ai ae L s l aa e bz (rawInt L)
section
variable {aw:List (Addr×Obj)} {e:Addr} {bz:Str} {fl:Value}
theorem dN.app(X:dN ai ae L s l (aw++aa) e bz fl):dN ai ae L s l aa e bz fl:=by
 refine lu X fun oe de vs T oT ts od tk aJ z1=>ay z1 fun S r=>?_
 clear X z1
 exact PY (a:=oe) (b:=de) (c:=vs) (d:=T) (e:=oT) (f:=ts) (g:=od) (h:=tk) (i:=aJ++aw) (bC (by rw[List.append_assoc];exact S) r)
theorem dN.up{x:Addr×Obj}(X:dN ai ae L s l (x::aa) e bz fl):dN ai ae L s l aa e bz fl:=dN.app (aw:=[x]) X
theorem PZ(C:Cx gx aH A ae aE az L dp un){Q:Unit→Shared→Prop}(X:GW ai ae L s l aa e bz)(h:∀g' s',KtsTurn (fA aE) ae g'→dN ai g' L s' l aa e bz (rawInt L)→Q () s'):
  wpAny M A (noteFrame (.ref e) az) Q E s:=by
 unfold noteFrame
 simp only[C.hf]
 rcases X with X|X|X
 ·refine f9 X fun oe de od tk t aJ z1=>eJ z1 fun S hc eZ hd hA=>wpAny_bind (wpAny_field (S.N _ mH).1 hd (x:= .none) rfl ?_)
  rw[if_neg (by decide)]
  refine Wc C S hd (by simp) fun g' T na oT ts s' t S' c1 c2 c3 d1 d2 d3=>h g' s' t ⟨na,de,_,T,oT,ts,od,tk,aJ,S',c1.trans hc,c2.trans eZ,c3,by simp,by simp,d1,d2,d3,hA⟩
 ·refine lu X fun oe de vs T oT ts od tk aJ z1=>uK z1 fun S hc eZ hd hz h1 jy lT h3 hA=>wpAny_bind (wpAny_field (S.N _ mH).1 hd h1 ?_)
  rw[if_pos (show(Value.ref T !=Value.none)=true from by simp)]
  have hT:=(S.N (T,oT) (mT mH)).1
  refine wpAny_bind (wpAny_field hT jy h3 ?_)
  rw[if_neg (show¬((Value.none==rawInt L)=true) from by simp[rawInt])]
  refine wpAny_bind (wpAny_setField hT jy lT ?_)
  have S2:=(S.perm (List.Perm.swap _ _ _)).top (h':=s.heap.update T (Obj.mapFields (·.setIfInBounds 3 Value.none))) (Heap.SameBut.update _ T _) (Heap.get?_update_self _ hT (Obj.isFreed_of_fields (Obj.data_mapFields jy _)))
  refine Wc C (S2.perm (List.Perm.swap _ _ _)) hd hz fun g' T' na oT' ts' s' t S' c1 c2 c3 d1 d2 d3=>h g' s' t ⟨na,de,_,T',oT',ts',od,tk,(T,_)::aJ,S'.perm (.cons _ (.cons _ (List.Perm.swap _ _ _))),c1.trans hc,c2.trans eZ,c3,by simpa using hz,by simp[hz],d1,d2,d3,hA⟩
 ·refine lu X fun oe de vs T oT ts od tk aJ z1=>uK z1 fun S hc eZ hd hz h1 jy lT h3 hA=>wpAny_bind (wpAny_field (S.N _ mH).1 hd h1 ?_)
  rw[if_pos (show(Value.ref T !=Value.none)=true from by simp)]
  refine wpAny_bind (wpAny_field (S.N (T,oT) (mT mH)).1 jy h3 ?_)
  rw[if_pos (by simp)]
  exact wpAny_pure (h _ _ .refl ⟨oe,de,vs,T,oT,ts,od,tk,aJ,S,hc,eZ,hd,hz,h1,jy,lT,h3,hA⟩)
theorem GS{fr:Option Addr}{Q:Unit→Shared→Prop}(X:dN ai ae L s l aa e bz fl)(h:∀s',dN ai ae L s' l aa e bz (fr.elim .none fun f=>rawInt f)→Q () s'):wpAny M A (setFlight (.ref e) fr) Q E s:=by
 refine lu X fun oe de vs T oT ts od tk aJ z1=>uK z1 fun S hc eZ hd hz h1 jy lT h3 hA=>?_
 clear X z1
 unfold setFlight
 refine wpAny_bind (wpAny_field (S.N _ mH).1 hd h1 ?_)
 rw[if_pos (show(Value.ref T !=Value.none)=true from by simp)]
 have hT:=(S.N (T,oT) (mT mH)).1
 refine wpAny_setField hT jy lT ?_
 have S2:=(S.perm (List.Perm.swap _ _ _)).top (h':=s.heap.update T (Obj.mapFields (·.setIfInBounds 3 (fr.elim Value.none fun f=>rawInt f)))) (Heap.SameBut.update _ T _) (Heap.get?_update_self _ hT (Obj.isFreed_of_fields (Obj.data_mapFields jy _)))
 exact h _ ⟨oe,de,vs,T,_,_,od,tk,aJ,S2.perm (List.Perm.swap _ _ _),hc,eZ,hd,hz,h1,Obj.data_mapFields jy _,by simpa using lT,by simp[lT],hA⟩
theorem uO(C:Cx gx aH A ae aE az L dp un)(X:GW ai ae L s l aa e bz)(h:∀g' s',KtsTurn (fA aE) ae g'→dN ai g' L s' l aa e bz (rawInt L)→E (.ref e) s'):notedBy M A az E (.ref e) s:=
 PZ C X h
theorem uM(C:Cx gx aH A ae aE az L dp un)(X:dN ai ae L s l aa e bz fl)(h:∀s',dN ai ae L s' l aa e bz (rawInt L)→E (.ref e) s'):cameBackBy M A az E (.ref e) s:=by
 have X':=X
 refine lu X' fun oe de vs T oT ts od tk aJ z1=>pk z1 fun S hc eZ hd hz h1 z2=>?_
 clear X' z1
 unfold cameBackBy
 refine wpAny_bind (wpAny_field (S.N _ mH).1 hd h1 ?_)
 rw[if_neg (by simp),C.hf]
 exact GS (fr:=some L) X (fun s' X'=>h s' X')
theorem nv(C:Cx gx aH A ae aE az L dp un){Q:Unit→Shared→Prop}(X:GW ai ae L s l aa e bz)(h:∀g' s',KtsTurn (fA aE) ae g'→dN ai g' L s' l aa e bz .none→Q () s'):wpAny M A (leaving az (.ref e)) Q E s:=by
 unfold leaving
 exact wpAny_bind (PZ C X fun g' s' t X'=>GS X' fun s2 X2=>h g' s2 t X2)
theorem St.back{g:Heap}{L':Addr}{s':Shared}{l':List (Str×Value)}(F:Fr ae L g (dY l))(S:St ai g L' s' l' aa):St ai ae L s' l aa:=by
 refine cQ F.ns fun oL es ep z1=>ay z1 fun Bj r=>?_
 clear z1
 refine⟨⟨⟨oL,es,ep,S.F.keep L oL Bj,r⟩,fun b o e=>S.F.keep b o (F.keep b o e),F.above⟩,fun q hq=>⟨(S.N q hq).1,fun e=>?_,?_⟩,S.D,S.R⟩
 ·have:=(S.N q hq).2.2;rw[e,Bj] at this;cases this
 ·cases z:ae.get? q.1 with
  |none=>rfl
  |some o=>have:=(S.N q hq).2.2;rw[F.keep _ _ z] at this;cases this
theorem St.jr{g g':Heap}{L':Addr}{s':Shared}{l':List (Str×Value)}(C:Cx gx aH A ae aE az L dp un)(F:Fr ae L g (dY l))(t:KtsTurn (L::fA aE) g g')(S:St ai g' L' s' l' aa):
  ∃fQ,KtsTurn (fA aE) ae fQ∧(aE=[]→fQ=ae)∧St ai fQ L s' l aa:=by
 have nL:ae.get? L=none:=kts_self F
 obtain⟨t2,k⟩:=kts_turn_at (fs:=fA aE) (g:=ae) (h:=s'.heap) (fun b hb=>let ⟨_,o,e,_⟩:=C.B.frames.mem hb;⟨o,e⟩)
  (fun b o e hn=>S.F.keep b o (t.other b o (F.keep b o e) fun hm=>by
   rcases List.mem_cons.mp hm with rfl|hm
   ·rw[nL] at e;cases e
   ·exact hn hm))
  (fun b o e hb=>let ⟨sl,e'⟩:=t.frame b o (F.keep b o e) (.tail _ hb);⟨sl,S.F.keep _ _ e'⟩)
 refine cQ F.ns fun oL es ep z1=>aO z1 fun Bj hd r=>?_
 clear z1
 obtain⟨sl,R8⟩:=t.frame L oL Bj (.head _)
 refine iu (aR t2 (by rintro rfl;rfl) ⟨⟨⟨_,es,ep,S.F.keep _ _ R8,hd,r⟩,k,by rw[t2.size];exact F.above⟩,fun q hq=>⟨(S.N q hq).1,fun e=>?_,?_⟩,S.D,S.R⟩)
 ·have:=(S.N q hq).2.2;rw[e,R8] at this;cases this
 ·refine t2.none_ _ ?_
  cases z:ae.get? q.1 with
  |none=>rfl
  |some o=>
   obtain⟨Vt,e2⟩:=t.up (F.keep _ _ z)
   have:=(S.N q hq).2.2;rw[e2] at this;cases this
theorem dN.jr{g g':Heap}{L':Addr}{s':Shared}{l':List (Str×Value)}(C:Cx gx aH A ae aE az L dp un)(F:Fr ae L g (dY l))(t:KtsTurn (L::fA aE) g g')(X:dN ai g' L' s' l' aa e bz fl):
  ∃fQ,KtsTurn (fA aE) ae fQ∧dN ai fQ L s' l aa e bz fl:=by
 refine lu X fun oe de vs T oT ts od tk aJ z1=>ay z1 fun S r=>?_
 clear X z1
 refine aS (S.jr C F t) fun fQ z1=>aO z1 fun t2 z2 S2=>?_
 clear z1
 exact iu (a:=fQ) (bC t2 (PY (a:=oe) (b:=de) (c:=vs) (d:=T) (e:=oT) (f:=ts) (g:=od) (h:=tk) (i:=aJ) (bC S2 r)))
theorem xcz{bw:Str}{aF:Arguments}{dV kV eN pm cU ct oc:Value}{an od:Option Addr}{ma:Array (Option Value)}{f:Addr}{args:Args}{em gV:List (Str×Value)}(hr:em.reverse=gV)(ho:(KF gx.gw.params).lookup f=some ⟨oc,od,.func (fnOf name bw aF bL aq dV kV eN pm an cU ct),ma⟩)(gT:codeIn (KF gx.gw.params) cU bw=true)(nU:∀s,(KF gx.gw.params).In s.heap→BindsTo s (fnOf name bw aF bL aq dV kV eN pm an cU ct) args em)(lN:∀y∈em,aq.names.lookup y.1=some .local)(jY:aq.isCoroutine=false)(j0:aq.isGenerator=false)(hk:aq.kind= .function)(jX:∀x∈aq.names,x.2≠.cell)(C:Cx gx aH A ae aE az L (dp+1) (un+3))(S:St ai ae L s l aa)(h:∀g L' aL,Fr ae L g (dY l)→Cx gx A (A.deeper (envX bw aq L' f cU [])) g (az::aE) (envX bw aq L' f cU []) L' dp un→St ai g L' aL gV aa→
      wpAny (model af gx.gw) (A.deeper (envX bw aq L' f cU [])) (execs bL (envX bw aq L' f cU [])) (fun fl s'=>R (.ok (.ret (lC fl))) s')
        (fun e s'=>wpAny (model af gx.gw) (A.deeper (envX bw aq L' f cU [])) (leaving (envX bw aq L' f cU []) e) (fun zz cM=>R (.error e) cM) (fun e' cM=>R (.error e') cM) s') aL):
  codeAny (model af gx.gw) A (.call (.ref f) args) R s:=by
 refine bB (groundX (R:=R) C.B S.F S.N C.hA C.hf C.hk) fun FG BG st z1=>?_
 have X:=C.X.keeps S.F.keep
 refine codeAny_call_def (fd:=fnOf name bw aF bL aq dV kV eN pm an cU ct) (body:=bL) (binds:=em) (by have:=C.hd;exact Gg this) (X _ _ ho) rfl (C.T.nolimit.keeps S.F.keep) (codeRec_of X gT) rfl (nU _ X) jX lN (fun dD kX Si=>?_) jY j0 hk
 have C':=C.push BG (C.X.keeps st) (C.T.keeps st) (ev:=envX bw aq s.heap.objs.size f cU []) (L':=s.heap.objs.size) rfl hk
 refine wpAny_mono (h _ s.heap.objs.size _ FG C' ⟨⟨hr▸kX,fun b o e=>Si b o (of_hideAll _ e),Nat.le_of_eq (hideAll_size _ _)⟩,fun q hq=>⟨Si _ _ (S.N q hq).1,Nat.ne_of_lt (Heap.lt_size (S.N q hq).1),hideAll_none _ (List.mem_map_of_mem hq)⟩,S.D,by rw[S.R]⟩) (fun fl s' hl=>?_) fun zz zz y=>y
 cases fl<;>exact hl
abbrev pu(f:Addr)(args:List Value)(b:List Stmt)(e:Addr→Env)(rb:List (Str×Value)):Prop:=∀{af:Program} {gx:Gx} {aH A:Around} {ae:Heap} {aE:List Env} {az:Env} {L:Addr} {dp un:Nat} {s ai:Shared} {l:List (Str×Value)} {aa:List (Addr×Obj)} {R:Result→Shared→Prop} (C:Cx gx aH A ae aE az L (dp+1) (un+3)) (S:St ai ae L s l aa) (h:∀g L' aL,Fr ae L g (dY l)→Cx gx A (A.deeper (e L')) g (az::aE) (e L') L' dp un→St ai g L' aL rb aa→wpAny (model af gx.gw) (A.deeper (e L')) (execs b (e L')) (fun fl s'=>R (.ok (.ret (lC fl))) s') (fun e' s'=>wpAny (model af gx.gw) (A.deeper (e L')) (leaving (e L') e') (fun _ cM=>R (.error e') cM) (fun e' cM=>R (.error e') cM) s') aL),codeAny (model af gx.gw) A (.call (.ref f) ⟨args,[]⟩) R s
theorem vc{f:Addr}{args:List Value}{rb:List (Str×Value)}(d:Stmt)(x:String)(cd:Addr)(mo:Value)(dV:Value:= .none)(hb:autoParam (∀(w:World) s,(KF w.params).In s.heap→BindsTo s (fnOf (m8 d) (q x) (md d) (bt d) (bg d) dV .none .none mo none (.ref cd) .none) ⟨args,[]⟩ rb.reverse) bk)(ho:autoParam (∀w:World,(KF w.params).lookup f=some ⟨.type "function",none,.func (fnOf (m8 d) (q x) (md d) (bt d) (bg d) dV .none .none mo none (.ref cd) .none),#[]⟩) ik)(gT:autoParam (∀w:World,codeIn (KF w.params) (.ref cd) (q x)=true) ik)(lN:autoParam ((rb.reverse.all fun y=>decide ((bg d).names.lookup y.1=some .local))=true) kr)(jY:autoParam ((bg d).isCoroutine=false) kr)(j0:autoParam ((bg d).isGenerator=false) kr)(hk:autoParam ((bg d).kind= .function) kr)(hn:autoParam (((bg d).names.all fun x=>x.2 != .cell)=true) kr):pu f args (bt d) (fun L=>envX (q x) (bg d) L f (.ref cd) []) rb:=fun C S h=>xcz (List.reverse_reverse rb) (ho _) (gT _) (fun s=>hb _ s) (locs lN) jY j0 hk (lb hn) C S h
end
noncomputable abbrev Jl:List Value:=[.ref 117,.ref 97,.type "Exception",.type "BaseException",.type "object"]
theorem xac(P:Params):(match clsIn (KF P) 117 with|some cd=>cd.mro==Jl&&cd.hasDict|none=>false)=true:=by kernel_rfl
set_option tactic.hygienic true in
theorem xab (P:Params):∃cd,clsIn (KF P) 117=some cd∧cd.mro=Jl∧cd.hasDict=true:=by
 have h:=xac P
 split at h
 ·rename_i cd e
  rw[Bool.and_eq_true] at h
  exact⟨cd,e,by simpa using h.1,h.2⟩
 ·cases h
theorem xcT(P:Params):findIn (KF P) (.ref 117) "__setattr__"=some (some (.builtin "object.__setattr__")):=by kernel_rfl
theorem RF(P:Params):findIn (KF P) (.ref 117) (q "message")=some none:=by kernel_rfl
theorem xcK(P:Params):findIn (KF P) (.ref 117) "__getattribute__"=some (some (.builtin "BaseException.__getattribute__")):=by kernel_rfl
theorem xcJ(P:Params):findIn (KF P) (.ref 117) "__getattr__"=some none:=by kernel_rfl
theorem xg7(self:Value):refuseLoop self "__setattr__" Jl=pure ():=by
 rw[refuseLoop_ref,refuseLoop_ref];exact PySem.F.store_Exception.passes self
noncomputable abbrev mB(vs:Array Value)(d:Option Addr):Obj:=⟨.ref 117,d,.fields vs,#[]⟩
section
theorem xhQ{e:Addr}{vs:Array Value}{Q:Unit→Shared→Prop}(C:Cx gx aH A ae aE az L dp un)(S:St ai ae L s l ((e,mB vs none)::aa))(h:∀d od s',bG od [(q "message",v)]→St ai ae L s' l ((e,mB vs (some d))::(d,od)::aa)→Q () s'):wpAny (model af gx.gw) A (setAttr (.ref e) (q "message") v) Q E s:=by
 have X:=C.X.keeps S.F.keep
 refine aS (xab gx.gw.params) fun cd z1=>aO z1 fun hc hm hd=>?_
 clear z1
 have I:InstAt s.heap e (mB vs none) 117 none:=⟨(S.N _ mH).1,rfl,rfl,trivial⟩
 refine set_plain X I (xcT _) ?_
 have SF:=PySem.F.store_object
 have S1:St ai ae L {s with toks:=s.toks+1} l ((e,mB vs none)::aa):=S.tick
 have X1:=C.X.keeps S1.F.keep
 have I1:InstAt ({s with toks:=s.toks+1}:Shared).heap e (mB vs none) 117 none:=I
 have sub:Looks (model af gx.gw) ({s with toks:=s.toks+1}:Shared).heap (isInstance (.ref e) (.type "object")) true:=
  I1.type.andThen (looks_mroIn X1 (by unfold mroIn;rw[hc,Option.bind_some,hm];rfl))
 refine codeAny_call_builtin SF.slot.plain SF.entry (@check_slot (model af gx.gw) _ _ _ "object.__setattr__" "object" "__setattr__" (.ref e) [.str (q "message") s.toks,v] [] _ SF.kind SF.split sub (SF.args (.ref e) (.str (q "message") s.toks) v) ?_)
 have jz:Looks (model af gx.gw) ({s with toks:=s.toks+1}:Shared).heap (mroOf (.ref 117)) cd.mro:=(looks_clsIn X1 hc).andThen .now
 rw[osa_eq,refuse_eq]
 refine wpAny_bind (wpAny_bind (I1.type.here (wpAny_bind (jz.here ?_))))
 rw[hm,xg7]
 refine wpAny_pure (wpAny_bind (I1.type.here (wpAny_bind ((looks_findIn X1 (RF _)).here (wpAny_bind (wpAny_pure<|wpAny_bind (wpAny_pure (wpAny_bind (wpAny_bind (wpAny_loadPart (S1.N _ mH).1 (wpAny_bind ((looks_clsIn X1 hc).here ?_))))))))))))
 rw[hd]
 refine wpAny_bind (wpAny_alloc ?_)
 have S2:=S1.push (tk:=s.toks+1) {cls:= .type "dict",data:= .dict #[]}
 generalize hD:({s with toks:=s.toks+1}:Shared).heap.objs.size=D at S2 ⊢
 have he:=(S2.N (e,mB vs none) (mT mH)).1
 refine wpAny_bind (wpAny_update he<|wpAny_pure ?_)
 have S3:=(S2.perm (List.Perm.swap _ _ _)).top (h':=(s.heap.push {cls:= .type "dict",data:= .dict #[]}).update e fun o=>{cls:=o.cls,dict:=some D,data:=o.data,slots:=o.slots}) (Heap.SameBut.update _ e _) (Heap.get?_update_self _ he rfl)
 show wpAny _ _ (Builtin.ObjectAttr.storeInDict D (.str (q "message") s.toks) (q "message") v) _ _ _
 refine wpAny_bind (wpAny_pure (wpAny_bind ?_))
 have S4:=S3.perm (List.Perm.swap _ _ _)
 have HT:=(S4.N _ mH).1
 unfold nsSet
 refine wpAny_bind (wpAny_bind (wpAny_askSetting (wpAny_pure (wpAny_bind (wpAny_mkText (wpAny_bind (wpAny_loadPart HT ?_)))))))
 dsimp only
 have c0:(!(#[]:Array DictEntry).any (·.key.isStr (q "message"))&&(#[]:Array DictEntry).any (·.refKey))=false:=by simp
 rw[aRefKeyMayBeTheName_at,c0]
 refine wpAny_updatePart HT ?_
 have e0:=putName_dict (q "message") (PyData.keyHash gx.gw.params (q "message")) (.str (q "message") (s.toks+1)) v [] 0
 have S5:=(S4.tick (tk:=s.toks+2)).top (h':=((s.heap.push {cls:= .type "dict",data:= .dict #[]}).update e fun o=>{cls:=o.cls,dict:=some D,data:=o.data,slots:=o.slots}).update D (Obj.putName (q "message") (PyData.keyHash gx.gw.params (q "message")) (.str (q "message") (s.toks+1)) v)) (Heap.SameBut.update _ D _)
  (Heap.get?_update_self (o:=dictOf [] 0) _ HT (by rw[e0];rfl))
 rw[e0] at S5
 refine wpAny_bind (wpAny_lookBehind (S5.N _ mH).1 (pastItsLine_dict (by simp[putL,sizeLine_eq])) ?_)
 exact wpAny_pure (h D _ _ (bG.add (es:=[]) (al:=[]) ⟨fun zz=>rfl,Nat.le_refl _⟩ (q "message") _ _ v) (S5.perm (List.Perm.swap _ _ _)))
end
noncomputable abbrev AT:List Value:=[.ref 97,.type "Exception",.type "BaseException",.type "object"]
noncomputable abbrev Yy:List Value:=[.type "Exception",.type "BaseException",.type "object"]
noncomputable def xs(P:Params)(i:Nat):Option Value:=(((KF P).lookup 117).elim #[] (·.slots)).toList.getD i none
theorem A5(P:Params):∃k0 k1 k2 k3 k5,(KF P).lookup 117=some (excClassObj (q "Refusal") (q "Refusal") 117 116 [.ref 97] AT true [] [] false none none k0 k1 k2 k3 k5 "Exception.__new__"):=⟨xs P 0,xs P 1,xs P 2,xs P 3,xs P 5,by kernel_rfl⟩
theorem xeC(P:Params):nsOkIn (KF P) 116=true:=by kernel_rfl
theorem xeB(P:Params):nsIn (KF P) 116 "__init__"=some (some (.ref 114)):=by kernel_rfl
theorem xjk(P:Params):tailIn (KF P) Yy AT=true:=by kernel_rfl
theorem xcO(P:Params):(match (KF P).lookup 114 with|some o=>o.cls== .type "function"|none=>false)=true:=by kernel_rfl
set_option tactic.hygienic true in
theorem xeD {K:Frag} {h:Heap} {N:Addr} {n:Str} (X:K.In h) (G:h.Ns N mg) (e:nsIn K N n=some (some v)):mg n=some v:=by
 refine cQ G fun o es ep z1=>bB z1 fun ho hd z2 hf=>?_
 clear G z1
 unfold nsIn at e
 split at e
 ·rename_i c d es' n' sl q
  have:=X _ _ q
  rw[ho] at this
  cases this
  cases hd
  split at e
  ·rename_i en he
   cases e
   rw[←hf]
   unfold nsFind findBy
   rw[←Array.find?_toList,he]
   rfl
  ·split at e<;>cases e
 ·cases e
section
theorem xep:(q "self"==q "__debug__")=false:=jj (by decide)
theorem xeo:(q "message"==q "__debug__")=false:=jj (by decide)
theorem xeq:(q "self"==q "message")=false:=jj (by decide)
theorem xiz{e:Addr}{vs:Array Value}{bz:Str}{tk:Tok}(C:Cx gx aH A ae aE az L (dp+1) (un+3))(S:St ai ae L s l ((e,mB vs none)::aa))(ret:∀d od s',bG od [(q "message",.str bz tk)]→St ai ae L s' l ((e,mB vs (some d))::(d,od)::aa)→R (.ok (.ret .none)) s'):codeAny (model af gx.gw) A (.call (.ref 114) ⟨[.ref e,.str bz tk],[]⟩) R s:=by
 refine xbL C S (fun g L1 s C S=>wpAny_execs_cons<|bH ?_)
 exists ul S ah ?_ (hd:=xeo)
 exists ul S (am ah (h:=xeq)) ?_ (hd:=xep)
 refine xhQ C S fun d od s hA S=>wpAny_execs_nil<|aT S (fun S=>?_)
 exact ret d od s hA S
theorem xjz{hp:Heap}{g:Array GenState}{d:Drawn}{t:Nat}{os:OsState}{q:Str}{C N:Addr}{bs bm Qy:List Value}{xdq:Bool}{sn:List Str}{sub:List Value}{ab:Bool}{col:Option Bool}{dd:Option Addr}{k0 k1 k2 k3 k5:Option Value}{B newId xdU:String}(F:ExcBaseFacts B newId xdU Qy)(T:OwnTail hp Qy bm){mN:Str→Option Value}{aJ:List Value}{fI:Addr}{oI:Obj}{Q:Fin→Shared→Prop}(hC:hp.get? C=some (excClassObj nm q C N bs bm xdq sn sub ab col dd k0 k1 k2 k3 k5 newId))(hn:hp.Ns N mN)(hi:mN "__init__"=some (.ref fI))(Ii:hp.get? fI=some oI)(fP:oI.cls= .type "function")(xdP:aJ.length≤sizeLine)(hq:wpAny (model af w) A (call (.ref fI) (.ref (hp.objs.size+1)::aJ)) (fun r s'=>r= .none∧Q (.done (.ret (.ref (hp.objs.size+1)))) s') E ⟨(hp.push {cls:= .type "tuple",data:= .seq aJ.toArray}).push {cls:= .ref C,data:= .fields #[.ref hp.objs.size,.none,.none,.none,.bool false,.none]},g,d,t,os⟩):
  wpAny (model af w) A (Builtin.«type.__call__» ⟨.ref C::aJ,[]⟩) Q E ⟨hp,g,d,t,os⟩:=by
 repeat (first|exists wpAny_loadPart_at hC ?_|exists wpAny_madeBy_exc hC ?_|wp_step)
 refine codeAny_call_builtin_code (Code.quiet_builtin _ F.quiet) (wpAny_check_new_subT F T hC<|codeAny_exc_new_subT F T hC ?_ xdP)
 show wpAny _ _ _ _ _ _
 have R6:=Heap.get?_push_of_some {cls:= .ref C,data:= .fields #[.ref hp.objs.size,.none,.none,.none,.bool false,.none]}
  (Heap.get?_push_of_some {cls:= .type "tuple",data:= .seq aJ.toArray} hC)
 have xds:=Heap.get?_push_of_some {cls:= .ref C,data:= .fields #[.ref hp.objs.size,.none,.none,.none,.bool false,.none]}
  (Heap.get?_push_of_some {cls:= .type "tuple",data:= .seq aJ.toArray} Ii)
 have xdI:=hn.keeps (h':=(hp.push {cls:= .type "tuple",data:= .seq aJ.toArray}).push {cls:= .ref C,data:= .fields #[.ref hp.objs.size,.none,.none,.none,.bool false,.none]}) fun b o e=>Heap.get?_push_of_some _ (Heap.get?_push_of_some _ e)
 have WH:=T.keeps (h':=(hp.push {cls:= .type "tuple",data:= .seq aJ.toArray}).push {cls:= .ref C,data:= .fields #[.ref hp.objs.size,.none,.none,.none,.bool false,.none]})
  fun b o e=>Heap.get?_push_of_some _ (Heap.get?_push_of_some _ e)
 have xdt:((hp.push {cls:= .type "tuple",data:= .seq aJ.toArray}).push
   {cls:= .ref C,data:= .fields #[.ref hp.objs.size,.none,.none,.none,.bool false,.none]}).get? (hp.objs.size+1)=some
   {cls:= .ref C,data:= .fields #[.ref hp.objs.size,.none,.none,.none,.bool false,.none]}:=by heap_get
 have hcC:(Value.ref C::bm).contains (.ref C)=true:=by simp
 unfold isInstance
 repeat (first|exists wpAny_loadPart_at xdt ?_|(exists wpAny_isSubtype_exc R6 ?_;rw[hcC])|wp_step)
 show wpAny _ _ (typeLookup (.ref C) _) _ _ _
 refine wpAny_typeLookup_tail R6 xdI WH F.mroIs F.init.lookup ?_
 rw[hi]
 refine wpAny_holding (wpAny_bind ?_)
 unfold bindSpecial
 refine wpAny_bind (wpAny_typeOf (T:="function") ⟨_,xds,fP⟩ ?_)
 rw[if_pos (by decide)]
 refine wpAny_pure (wpAny_bind (wpAny_mono hq (fun r s' hr=>?_) fun zz zz x=>x))
 obtain⟨rfl,hQ⟩:=hr
 wp_walk
 exact hQ
theorem xjy{bz:Str}{tk:Tok}(C:Cx gx aH A ae aE az L (dp+2) (un+6))(S:St ai ae L s l aa)(h:∀e s',nz ai ae L s' l aa e bz→Q (.ref e) s'):wpAny (model af gx.gw) A (call (.ref 117) [.str bz tk]) Q E s:=by
 have X:=C.X.keeps S.F.keep
 refine eY (A5 gx.gw.params) fun k0 k1 k2 k3 k5 hl=>?_
 have hC:=X _ _ hl
 have hn:=Heap.Ns.of_isNs (isNs_of_in X (xeC _))
 have hi:=xeD X hn (xeB _)
 have T:=tail_of_in X (xjk gx.gw.params)
 have F:=PySem.F.excBase_Exception
 obtain⟨oI,Ii,fP⟩:∃oI,s.heap.get? 114=some oI∧oI.cls= .type "function":=by
  have z:=xcO gx.gw.params
  cases e:(KF gx.gw.params).lookup 114 with
  |none=>rw[e] at z;cases z
  |some o=>rw[e] at z;exact⟨o,X _ _ e,by simpa using z⟩
 have S1:=(S.push {cls:= .type "tuple",data:= .seq [Value.str bz tk].toArray} (tk:=s.toks)).push {cls:= .ref 117,data:= .fields #[.ref s.heap.objs.size,.none,.none,.none,.bool false,.none]} (tk:=s.toks)
 obtain⟨hp,g,d,t,os⟩:=s
 have f1:=tc_lookup
 have f2:=tc_bind (.ref 117)
 have hT:(⟨hp,g,d,t,os⟩:Shared).TypeIs (.ref 117) "type":=⟨_,hC,rfl⟩
 refine wpAny_call (codeAny_of_tree ?_)
 show wpAny _ _ (callAny (.ref 117) _) _ _ _
 repeat (any_goals (first|assumption|exists wpAny_loadPart_at hC ?_|wp_step))
 refine⟨rfl,?_⟩
 refine codeAny_call_builtin_at (Code.quiet_builtin _ (by decide+kernel)) entry_typeCall (wpAny_check_type_call_sub hC (xjz F T hC hn hi Ii fP (by rw[sizeLine_eq];exact Nat.le_of_ble_eq_true rfl) ?_))
 have qk:(hp.push {cls:= .type "tuple",data:= .seq [Value.str bz tk].toArray}).objs.size=hp.objs.size+1:=Heap.size_push ..
 have S1:=qk▸S1
 refine wpAny_call (xiz (C.VV (K:=117) (vs:=[.str bz tk])) S1 fun dd od s' hA S'=>?_)
 exact bC rfl (h _ _ ⟨_,dd,od,tk,_,[_],S',rfl,rfl,rfl,hA⟩)
end
theorem xd1(P:Params):keepIn (KF P) (.ref 117)=true:=by kernel_rfl
section
theorem Pk{x:Sem Value}{Q:Flow→Shared→Prop}(hh:A.handled=none)(h:wpAny M A x (fun v aL=>∃e od dt,v= .ref e∧(KF w.params).In aL.heap∧aL.heap.get? e=some od∧od.cls= .ref 117∧od.data= .fields #[.ref dt,.none,.none,.none,.bool false,.none]∧E (.ref e) aL) E s):
  wpAny M A (raiseStmt az (some x) none) Q E s:=by
 unfold raiseStmt
 refine wpAny_bind (wpAny_mono h (fun v aL dD=>?_) fun zz zz x=>x)
 refine cQ dD fun e od t z1=>kF z1 fun z2 X he fY lL hE=>?_
 clear dD z1
 subst z2
 refine eY (A5 w.params) fun k0 k1 k2 k3 k5 hl=>?_
 have hC:=X _ _ hl
 obtain⟨hp,g,d,tk,os⟩:=aL
 obtain⟨c1,c2,c3,c4⟩:=od
 dsimp only at fY lL
 subst fY lL
 have H8:(Value.ref 117::AT).contains (.type "BaseException")=true:=by simp
 repeat (first|exists wpAny_loadPart_at he ?_|exists wpAny_loadPart_at hC ?_|(exists wpAny_isSubtype_exc hC ?_;rw[H8])|wp_step)
 exact wpAny_raiseNew_none hh hE
theorem ux{ex:Expr}{Q:Flow→Shared→Prop}(hh:A.handled=none)(h:wpAny M A (eval ex ev) (fun v aL=>∃e bz ai ae L l aa,v= .ref e∧(KF w.params).In aL.heap∧nz ai ae L aL l aa e bz∧E (.ref e) aL) E s):
  wpAny M A (exec (.Raise (some ex) none aI) ev) Q E s:=by
 rw[arm_exec_Raise]
 have h2:wpAny M A (eval ex ev) (fun v aL=>∃e od dt,v= .ref e∧(KF w.params).In aL.heap∧aL.heap.get? e=some od∧od.cls= .ref 117∧od.data= .fields #[.ref dt,.none,.none,.none,.bool false,.none]∧E (.ref e) aL) E s:=
  by
  refine wpAny_mono h (fun v aL z=>?_) fun zz zz x=>x
  obtain⟨e,bz,ai,ae,L,l,aa,hv,X,z,hE⟩:=z
  obtain⟨oe,de,od,tk,t,aJ,S,hc,hd,lL,z⟩:=z
  exact⟨e,oe,t,hv,X,(S.N _ mH).1,hc,lL,hE⟩
 first
  |exact wpAny_bind (wpAny_standAt (Pk (w:=w) hh (wpAny_bind (wpAny_mono h2 (fun v bx cP=>wpAny_bind (wpAny_standAt (wpAny_pure cP))) fun zz zz x=>x))))
  |exact wpAny_bind (wpAny_standAt (Pk (w:=w) hh h2))
  |(simp only[evalOpt,Option.map];exact wpAny_bind (wpAny_standAt (Pk (w:=w) hh h2)))
end
theorem xca:pu 350 [v0,v1] XO xa6 [(q "c",v1),(q "self",v0)]:=vc (cA 31 1) "ClassTable.define" 349 (.str (q "vectorcove.s4classes") 549)
theorem xcb:pu 357 [v0,v1,v2] XQ xa7 [(q "members",v2),(q "name",v1),(q "self",v0)]:=vc (cA 31 2) "ClassTable.set_union" 356 (.str (q "vectorcove.s4classes") 549)
theorem xbD:pu 1089 [v0,v1,v2] Xf xaA [(q "env",v2),(q "args",v1),(q "interp",v0)]:=vc (sA 99) "b_setClass" 1088 (.str (q "vectorcove.s4classcalls") 1657)
theorem xbE:pu 1094 [v0,v1,v2] Xg xaB [(q "env",v2),(q "args",v1),(q "interp",v0)]:=vc (sA 100) "b_setClassUnion" 1093 (.str (q "vectorcove.s4classcalls") 1657)
theorem xbU{v3:Value}:pu 1502 [v0,v1,v2,v3] Xx xaR [(q "as_union",v3),(q "joiners",v2),(q "word",v1),(q "interp",v0)]:=vc (sA 133) "_law_set" 1501 (.str (q "law_pq1369_01") 2294)
theorem sL{a b:Nat}(h1:x.length≤a)(h2:y.length≤b):(x++y).length≤a+b:=by rw[strLen_append];exact Nat.add_le_add h1 h2
theorem eH:Str.empty.length≤0:=Nat.le_refl _
theorem bI{x:String}(h:Nat.ble (q x).length 100=true):(q x).length≤100:=Nat.le_of_ble_eq_true h
theorem eI{a:Nat}(h:x.length≤a)(ha:a≤10000):x.length≤sizeLine:=by rw[sizeLine_eq];exact xeT h ha
theorem pV(P:Params):nsIn (KF P) mainGlobals (q "Refusal")=some (some (.ref 117))∧keepIn (KF P) (.ref 117)=true:=⟨HH P,xd1 P⟩
section
theorem oV{t:Tok}(S:St ai ae L s l aa)(hz:x.length≤1000)(h:∀t s',St ai ae L s' l aa→Q (.str x t) s'):wpAny M A (formatField (.str x t) Str.empty) Q E s:=
 formatField_str (fun t' tk=>h t' _ S.tick) (by rw[sizeLine_eq];exact oP hz)
theorem uj{out:Str}(S:St ai ae L s l aa)(hz:out.length≤sizeLine)(h:∀t s',St ai ae L s' l aa→Q (.str out t) s'):wpAny M A (joinParts out []) Q E s:=joinParts_nil (h _ _ S.tick) hz
theorem fT{out:Str}{x:Sem Value}{aJ:List (Sem Value)}(h:wpAny M A x (fun v aL=>∃y t,v= .str y t∧(out++y).length≤sizeLine∧wpAny M A (joinParts (out++y) aJ) Q E aL) E s):wpAny M A (joinParts out (x::aJ)) Q E s:=
 joinParts_cons (wpAny_mono h (fun v aL ⟨y,t,e,a,b⟩=>by subst e;exact⟨a,b⟩) fun zz zz e=>e)
theorem nz.kf{e:Addr}{bz:Str}(C:Cx gx aH A ae aE az L dp un)(X:nz ai ae L s l aa e bz):(KF gx.gw.params).In s.heap:=by
 refine f9 X fun oe de od tk t aJ z1=>ay z1 fun S z2=>?_
 clear X z1
 exact C.X.keeps S.F.keep
theorem uN{bz:Str}{tk:Tok}{d u:Nat}(hd:2≤d:=by omega)(hu:6≤u:=by omega)(C:Cx gx aH A ae aE az L (dp+d) (un+u))(S:St ai ae L s l aa)(h:∀e s',nz ai ae L s' l aa e bz→E (.ref e) s'):
  (KF gx.gw.params).In s.heap∧wpAny (model af gx.gw) A (call (.ref 117) [.str bz tk]) (fun v aL=>∃e bz ai ae L l aa,v= .ref e∧(KF gx.gw.params).In aL.heap∧nz ai ae L aL l aa e bz∧E (.ref e) aL) E s:=
 ⟨C.X.keeps S.F.keep,xjy (dp:=dp+d- 2) (un:=un+u- 6) (C.weak (by exact xeV hd) (by exact xeU hu)) S fun e s' X=>⟨e,bz,_,_,_,_,_,rfl,X.kf C,X,h e s' X⟩⟩
theorem KtsTurn.fs{g g':Heap}(C:Cx gx aH A ae aE az L dp un)(t:KtsTurn (fA (az::aE)) g g'):KtsTurn (L::fA aE) g g':=by
 rw[←C.fs];exact t
end
noncomputable def qx(m:Str):Str:=Str.empty++q "the member classes must be defined: not true of “"++m++q "”"
noncomputable def m7(nm:Str):Str:=Str.empty++q "class “"++nm++q "” cannot be its own superclass"
noncomputable def qw(m nm:Str):Str:=Str.empty++q "no definition was found for superclass “"++m++q "” in the specification of class “"++nm++q "”"
noncomputable def iB(cs:List (Str×CA))(us:List (Str×List Str))(nm m:Str):Option Str:=if ig cs m=false then some (qx m) else if (nm==m||(gq cs us nm m).isSome)=true then some (m7 nm) else none
theorem Z8{cs us nm m}(h:ig cs m=false):iB cs us nm m=some (qx m):=by unfold iB;rw[if_pos h]
theorem QF{cs us nm m}(h:ig cs m=true)(h2:(nm==m||(gq cs us nm m).isSome)=true):iB cs us nm m=some (m7 nm):=by unfold iB;rw[if_neg (by rw[h];decide),if_pos h2]
theorem Z7{cs us nm m}(h:ig cs m=true)(h2:(nm==m)=false)(h3:(gq cs us nm m).isSome=false):iB cs us nm m=none:=by unfold iB;rw[if_neg (by rw[h];decide),h2,h3];rfl
theorem oZ{α β:Type}{f:α→Option β}{l:List α}{i:Nat}{a:α}{b:β}(h:l[i]?=some a)(hp:(l.take i).findSome? f=none)(hb:f a=some b):l.findSome? f=some b:=by
 have e:(l.take (i+1)).findSome? f=some b:=by
  rw[List.take_add_one,h,List.findSome?_append,hp]
  simp[hb]
 conv=>lhs;rw[←List.take_append_drop (i+1) l]
 rw[List.findSome?_append,e];rfl
theorem BS{α β:Type}{f:α→Option β}{l:List α}{i:Nat}{a:α}(h:l[i]?=some a)(hp:(l.take i).findSome? f=none)(hb:f a=none):(l.take (i+1)).findSome? f=none:=by
 rw[List.take_add_one,h,List.findSome?_append,hp]
 simp[hb]
theorem wi{cf:List (Addr×Obj)}{x:Addr}(hW:∀a∈W,∃o,(a,o)∈aa)(k:∀p∈aa,∃o,(p.1,o)∈cf)(h:∀p∈cf,p.1<x):x∉W:=fun m=>by
 obtain⟨o,ho⟩:=hW x m
 obtain⟨o2,fg⟩:=k _ ho
 exact absurd (h _ fg) (Nat.lt_irrefl _)
theorem Up.mz{d:Addr}{o':Obj}{l l':List (Addr×Obj)}(u:Up d o o' l l'):∀p∈l,∃o,(p.1,o)∈l':=fun p hp=>by
 have:p.1∈l'.map (·.1):=by rw[u.keys];exact List.mem_map_of_mem hp
 refine aS (List.mem_map.mp this) fun z z1=>ay z1 fun hz e=>?_
 clear z1
 exact⟨z.2,by rw[←e];exact hz⟩
section
theorem xiR{t dc du:Addr}{cs:List (Str×CA)}{tn:Tok}{mc:Addr}{mv:Array Value}{mk:Nat}(C:Cx gx aH A ae aE az L (dp+9) (un+27))(S:St ai ae L s l aa)(T:Tab af gx.gw W aa t dc du cs us)(Z:Bs gx)(mQ:(mc,listOf mv mk)∈aa)(dO:StrsAre mv.toList ms)(fZ:ms.length≤100)(jA:∀m∈ms,m.length≤1000)(df:nm.length≤1000)(hx:(nm==q "ANY")=false)(hW:∀a∈W,∃o,(a,o)∈aa)(Bl:dc∈W)(huW:du∈W)(Ig:dc≠du)(hmD:mc≠dc)(ic:Small (bT cs nm ⟨true,[]⟩) (bT us nm ms))(ret:∀ag s',ms.findSome? (iB cs us nm)=none→St ai ae L s' l ag→(∀p∈aa,p.1≠dc→p.1≠du→p∈ag)→(∀p∈aa,∃o,(p.1,o)∈ag)→Tab af gx.gw W ag t dc du (bT cs nm ⟨true,[]⟩) (bT us nm ms)→R (.ok (.ret .none)) s')(kx:∀bz fQ e s',ms.findSome? (iB cs us nm)=some bz→KtsTurn (fA aE) ae fQ→dN ai fQ L s' l aa e bz .none→R (.error (.ref e)) s'):
  codeAny (model af gx.gw) A (.call (.ref 357) ⟨[.ref t,.str nm tn,.ref mc],[]⟩) R s:=by
 have C0:=C
 refine xcb C S (fun g1 L1 s FG C S=>bo ?_)
 intro Kz Ez
 have jz:=bX (cG dO)
 have IF:mv.size≤sizeLine:=by rw[sizeLine_eq];exact nc fZ jz
 refine ec ?_
 intro Kz
 refine cD ?_
 exists ap S ah ?_
 refine dg C.hh S mQ (fun Ix oi s S hO Wi=>?_)
 refine dF Wi S hO (fun i l' ag=>(l'.lookup (q "self")=some (.ref t)∧l'.lookup (q "name")=some (.str nm tn)∧l'.lookup (q "members")=some (.ref mc))∧aa=ag∧(ms.take i).findSome? (iB cs us nm)=none) ⟨⟨(aB ah),(am ah),ah⟩,rfl,rfl⟩ (fun zz zz zz hJ=>by obtain⟨_,rfl,_⟩:=hJ;exact mQ) (fun i vv s l' ag it hi hv hJ S=>?_) (fun s l' ag hJ S=>?_)
 ·intro Kz Ez
  refine aO hJ fun z1 e2 hf=>aO z1 fun hS hN hM=>?_
  clear hJ z1
  subst e2
  refine aP (eW dO (i:=i) (by simpa using hv)) fun m tm z1=>ay z1 fun z2 hm=>?_
  clear z1
  subst z2
  have gA:=jA m (List.mem_of_getElem? hm)
  exists dG S ?_
  intro lz dz S
  refine eu S (fun s S=>ec ?_)
  intro Kz
  refine wpAny_If<|isTrue_not<|isTrue_plain<|methodCall_KW ?_
  exists ap S (am hS) ?_
  refine fw C S (S7 _) T.up.i.inst (bj (bj (dP))) ?_
  exists aU S ah ?_
  refine bh C S<|VG C S T.up (fun s S=>?_)
  exists wpAny_truthy_bool ?_
  refine vO (fun c0=>?_) (fun c0=>?_)
  ·refine ec ?_
   intro Kz
   refine ux (w:=gx.gw) C.hh<|aY C S (pV _)<|spliced_more<|JoinedStr_many<|fT ?_
   exists bE S (fun bp s S=>?_)
   refine aN (aR rfl (eI (sL eH (bI (by kernel_rfl))) (by decide))<|fT<|FormattedValue_plain ?_)
   exists ap S ah ?_
   refine oV S gA (fun tf s S=>aN (aR rfl (eI (sL (sL eH (bI (by kernel_rfl))) gA) (by decide))<|fT ?_))
   exists bE S (fun bO s S=>?_)
   refine aN (aR rfl (eI (sL (sL (sL eH (bI (by kernel_rfl))) gA) (bI (by kernel_rfl))) (by decide)) ?_)
   have iZ:=eI (x:=(((Str.empty++q "the member classes must be defined: not true of “")++m)++q "”")) (sL (sL (sL eH (bI (by kernel_rfl))) gA) (bI (by kernel_rfl))) (by decide)
   show wpAny _ _ (joinParts _ []) _ _ _
   exists uj (out:=(((Str.empty++q "the member classes must be defined: not true of “")++m)++q "”")) S iZ (fun tj s S=>?_)
   refine spliced_none<|uN (d:=8) (u:=24) (by decide) (by decide) C S (fun e s X0=>uO C (.inl X0) fun g2 s t1 X=>?_)
   have C:=C.turn Z t1
   refine uM C X fun s X=>nv C (.inr (.inr X)) fun g4 s t2 X=>aS (dN.jr C0 FG (KtsTurn.fs C0 (t1.trans t2)) X) fun h3 z1=>ay z1 fun t3 X=>?_
   clear z1
   exact kx _ h3 e s (oZ hm hf (Z8 c0)) t3 (X.up)
  ·refine wpAny_execs_nil<|ec ?_
   intro Kz
   refine wpAny_If<|isTrue_or<|wpAny_isTrue_Compare1 ?_
   exists ap S (am hN)<|ap S ah<|eq_str<|bV (fun c1=>?_) (fun c1=>?_)
   ·exists er ?_
    refine ec ?_
    intro Kz
    refine ux (w:=gx.gw) C.hh<|aY C S (pV _)<|spliced_more<|JoinedStr_many<|fT ?_
    exists bE S (fun bp s S=>?_)
    refine aN (aR rfl (eI (sL eH (bI (by kernel_rfl))) (by decide))<|fT<|FormattedValue_plain ?_)
    exists ap S (am hN) ?_
    refine oV S df (fun tf s S=>aN (aR rfl (eI (sL (sL eH (bI (by kernel_rfl))) df) (by decide))<|fT ?_))
    exists bE S (fun bO s S=>?_)
    refine aN (aR rfl (eI (sL (sL (sL eH (bI (by kernel_rfl))) df) (bI (by kernel_rfl))) (by decide)) ?_)
    have iZ:=eI (x:=(((Str.empty++q "class “")++nm)++q "” cannot be its own superclass")) (sL (sL (sL eH (bI (by kernel_rfl))) df) (bI (by kernel_rfl))) (by decide)
    show wpAny _ _ (joinParts _ []) _ _ _
    exists uj (out:=(((Str.empty++q "class “")++nm)++q "” cannot be its own superclass")) S iZ (fun tj s S=>?_)
    refine spliced_none<|uN (d:=8) (u:=24) (by decide) (by decide) C S (fun e s X0=>uO C (.inl X0) fun g2 s t1 X=>?_)
    have C:=C.turn Z t1
    refine uM C X fun s X=>nv C (.inr (.inr X)) fun g4 s t2 X=>aS (dN.jr C0 FG (KtsTurn.fs C0 (t1.trans t2)) X) fun h3 z1=>ay z1 fun t3 X=>?_
    clear z1
    exact kx _ h3 e s (oZ hm hf (QF c0 (by rw[c1];rfl))) t3 (X.up)
   ·refine isTrue_or<|wpAny_isTrue_Compare1<|methodCall_KW ?_
    exists ap S (am hS) ?_
    refine fw C S (BO _) T.up.i.inst (bj (bj (dP))) ?_
    exists bQ S (am hN)<|aU S ah ?_
    refine bh C S<|GG C S T.up hx (fun tq s S=>wpAny_Constant_none<|Pd ?_)
    exists bV (fun c2=>?_) (fun c2=>?_)
    ·exists er ?_
     refine ec ?_
     intro Kz
     refine ux (w:=gx.gw) C.hh<|aY C S (pV _)<|spliced_more<|JoinedStr_many<|fT ?_
     exists bE S (fun bp s S=>?_)
     refine aN (aR rfl (eI (sL eH (bI (by kernel_rfl))) (by decide))<|fT<|FormattedValue_plain ?_)
     exists ap S (am hN) ?_
     refine oV S df (fun tf s S=>aN (aR rfl (eI (sL (sL eH (bI (by kernel_rfl))) df) (by decide))<|fT ?_))
     exists bE S (fun bO s S=>?_)
     refine aN (aR rfl (eI (sL (sL (sL eH (bI (by kernel_rfl))) df) (bI (by kernel_rfl))) (by decide)) ?_)
     have iZ:=eI (x:=(((Str.empty++q "class “")++nm)++q "” cannot be its own superclass")) (sL (sL (sL eH (bI (by kernel_rfl))) df) (bI (by kernel_rfl))) (by decide)
     show wpAny _ _ (joinParts _ []) _ _ _
     exists uj (out:=(((Str.empty++q "class “")++nm)++q "” cannot be its own superclass")) S iZ (fun tj s S=>?_)
     refine spliced_none<|uN (d:=8) (u:=24) (by decide) (by decide) C S (fun e s X0=>uO C (.inl X0) fun g2 s t1 X=>?_)
     have C:=C.turn Z t1
     refine uM C X fun s X=>nv C (.inr (.inr X)) fun g4 s t2 X=>aS (dN.jr C0 FG (KtsTurn.fs C0 (t1.trans t2)) X) fun h3 z1=>ay z1 fun t3 X=>?_
     clear z1
     exact kx _ h3 e s (oZ hm hf (QF c0 (by rw[c2];simp))) t3 (X.up)
    ·exists isTrue_or_nil<|cJ ?_
     refine wpAny_execs_nil<|wpAny_execs_nil ?_
     exact aN (bW S (aR (am hS) (am hN) (am hM)) rfl (BS hm hf (Z7 c0 c1 c2)))
 refine aO hJ fun z1 e2 hf=>aO z1 fun hS hN hM=>?_
 clear hJ z1
 subst e2
 rw[List.take_of_length_le (by exact fK jz)] at hf
 refine ec ?_
 intro Kz
 refine wpAny_Assign_Subscript<|iJ C S (RW _) (Hg _) ?_
 exists bQ S hN ?_
 refine spliced_more ?_
 exists List_ ?_
 refine cF S aG (fun x1 s S eA=>spliced_more ?_)
 exists List_ ?_
 refine cF S aG (fun x2 s S dE=>spliced_more ?_)
 exists wpAny_Constant_none ?_
 refine spliced_more ?_
 exists wpAny_Constant_bool ?_
 refine spliced_more<|i5 C S (fun d3 s S ld3 TC=>spliced_none<|iE C S<|TM C S (fun x4 d5 kj s S h6 l7 l8=>aP T.c.ex fun oc kc z1=>aO z1 fun fH vC uS=>?_))
 clear z1
 refine aP T.u.ex fun oq ku z1=>aO z1 fun IC Ih uU=>?_
 clear z1
 obtain⟨gc,uc⟩:=Up.ex ((S.drop).drop.drop.drop.drop) fH
 refine a9 C S hS (lD _) T.up.up.up.up.up.i.inst (am ah) bA (fun s S=>?_)
 exists ap S hN ?_
 have j8:=uS.len
 have IY:=uU.len
 have j7:=T.z.c
 have vL:=T.z.u
 refine jn S (fun o'=>(Up.tail (Up.tail (Up.tail (Up.tail (Up.tail (uc o'))))))) vC (by rw[sizeLine_eq];exact OE j8 j7) (fun o2 s fg S=>?_)
 have eD:dc≠du:=Ig
 have xdK:(du,oq)∈gc o2:=(uc o2).keep IC (Ne.symm eD)
 have kt:cC W (gc o2) t 409 [(q "unions",.ref du),(q "classes",.ref dc)]:=T.i.mono fun p hp hw=>(uc o2).keep hp fun e=>hw (by rw[show p.1=dc from e];exact Bl)
 refine ec ?_
 intro Kz
 refine wpAny_Assign_Subscript ?_
 have xdD:=(uc o2).keep mQ hmD
 refine fS C S (nP _) nD ?_
 exists aU S hM ?_
 refine oW S (eg xdD) IF (fun x9 Rk s S BK=>?_)
 obtain⟨gu,uu⟩:=Up.ex (S.sub (.cons _ (.cons _ (.cons _ (.cons _ (.cons _ (.cons _ (List.Sublist.refl _)))))))) xdK
 refine a9 C S hS (HB _) kt.up.up.up.up.up.up.inst ah bA (fun s S=>?_)
 exists ap S hN ?_
 refine jn S (fun o'=>(Up.tail (Up.tail (Up.tail (Up.tail (Up.tail (Up.tail (uu o')))))))) Ih (by rw[sizeLine_eq];exact OE IY vL) (fun o3 s ho3 S=>?_)
 refine wpAny_execs_nil ?_
 replace S:=St.back FG S
 have kk:∀p∈aa,p.1≠dc→p.1≠du→p∈gu o3:=fun p hp n1 n2=>(uu o3).keep ((uc o2).keep hp n1) n2
 have kd:∀p∈aa,∃o,(p.1,o)∈gu o3:=fun p hp=>by obtain⟨o,h⟩:=(uc o2).mz p hp;exact(uu o3).mz (p.1,o) h
 have kp:Kp W aa (gu o3):=fun p hp hw=>kk p hp (fun e=>hw (e▸Bl)) (fun e=>hw (e▸huW))
 have q1:x1∉W:=wi hW (fun p hp=>⟨p.2,hp⟩) eA
 have q2:x2∉W:=wi hW (fun p hp=>⟨p.2,mT hp⟩) dE
 have q3:d5∉W:=wi hW (fun p hp=>⟨p.2,mT (bc hp)⟩) l7
 have q4:x4∉W:=fun m=>by obtain⟨o,ho⟩:=hW _ m;have z:=l7 _ (b5 ho);exact absurd (Nat.lt_trans z l8) (Nat.lt_irrefl _)
 have q5:x9∉W:=wi hW (fun p hp=>by obtain⟨o,h⟩:=(uc o2).mz p hp;exact⟨o,mT (ch (h))⟩) BK
 have I9:Kp W aa ((x9,listOf mv Rk)::(x4,instObj 304 d5)::(d5,kj)::(d3,emptyDict)::(x2,listOf #[] 0)::(x1,listOf #[] 0)::gu o3):=fun p hp hw=>mT (eg (kp p hp hw))
 have T2:Tab af gx.gw W ((x9,listOf mv Rk)::(x4,instObj 304 d5)::(d5,kj)::(d3,emptyDict)::(x2,listOf #[] 0)::(x1,listOf #[] 0)::gu o3) t dc du (bT cs nm ⟨true,[]⟩) (bT us nm ms):=⟨T.i.mono I9,⟨⟨o2,_,mT (eg ((uu o3).keep (uc o2).jE eD)),fg,(uS.mono fun zz zz zz h=>h.mono I9).put ?_⟩,T.c.lo⟩,⟨⟨o3,_,mT (eg ((uu o3).jE)),ho3,(uU.mono fun zz zz zz h=>h.mono I9).put ⟨x9,rfl,mv,_,⟨mH,q5⟩,dO⟩⟩,T.u.lo⟩,ic⟩
 ·exact ret _ s hf S (fun p hp n1 n2=>mT (eg (kk p hp n1 n2))) (fun p hp=>let ⟨o,h⟩:=kd p hp;⟨o,mT (eg (h))⟩) T2
 exact iy (a:=x4) (b:=tn) (c:=x1) (d:=x2) (e:=d3) (bW rfl (aN (a:=d5) (aR (bC (mT mH) q4) (bC (bc mH) q3) h6)) (aN (a:=#[]) (bC (bC (ch (mH)) q2) .nil)) (iu (bC (eg (mH)) q1)))
end
section
theorem iI{t u:Tok}(S:St ai ae L s l aa)(hz:x.length+y.length≤10000)(h:∀t s',St ai ae L s' l aa→Q (.str (x++y) t) s'):wpAny (model af w) A (binaryOp .Add (.str x t) (.str y u)) Q E s:=
 PyProof.Rows.add_str (fun t' tk=>h t' _ S.tick) (by rw[sizeLine_eq];exact xeX hz)
theorem xhx{cn:Str}{sc:Scope}{c P:Addr}{aF:Arguments}{ps:Array Value}{bw:Str}{AZ:List (Str×Addr)}{g:Obj→List (Addr×Obj)}{Q:Flow→Shared→Prop}(C:Cx gx aH A ae aE az L dp un)(S:St ai ae L s l aa)(hc:codeHdIn (KF gx.gw.params) c P=true)(hT:dX aa aI bw ps)(u:∀o',Up P (tabObj ps) o' aa (g o'))(hq:qualnameIn (envX cn sc L a (.ref c) cl) name name=bw)(Ie:aF.defaults=[])(n7:aF.kw_defaults=[])(ha:annTrees aF none (envX cn sc L a (.ref c) cl)=[])(fY:closureFor aq (envX cn sc L a (.ref c) cl)=pure AZ)(hk:sc.kind= .function)(hl:(envX cn sc L a (.ref c) cl).kindOf name=some .local)(h:∀f fo aw da s',St ai ae L s' ((name,.ref f)::l) ((f,fo)::(aw++g (tabObj da)))→dX (aw++g (tabObj da)) aI bw da→(∀p∈aa,p.1<f)→Q .next s'):
  wpAny (model af gx.gw) A (exec (.FunctionDef name aF bL [] none [] aq none name aI) (envX cn sc L a (.ref c) cl)) Q E s:=by
 have hC:=codeHd_of_K C.X hc
 refine nestDef_K Ie n7 ha ?_
 rw[hq]
 rcases hT with rfl|⟨c',oc,vs,t,rfl,hm,hd,hv⟩
 ·refine nest_K S.F S.N C.T hC rfl (Up.toF S.D u) trivial rfl fY fun f c' oc vs t iU eN h' tk F' N' hd hv oF oG=>jo (ai:=ai) (aa:=(f,fnMade name bw aF bL aq AZ eN ((gx.gg "__name__").getD .none) c' iU)::([(c',oc)]++g (tabObj #[rawInt aI.line,rawInt aI.col,.ref c']))) ⟨F',by simpa using N',?_,by rw[S.R]⟩ (hk:=hk) (hl:=hl) fun s2 S2=>?_
  ·rw[List.map_cons,List.singleton_append,List.map_cons]
   have Ip:(g (tabObj #[rawInt aI.line,rawInt aI.col,.ref c'])).map (·.1)=aa.map (·.1):=(u _).keys
   rw[Ip,List.nodup_cons,List.nodup_cons]
   refine⟨?_,?_,S.D⟩
   ·simp only[List.mem_cons,not_or]
    refine⟨Nat.ne_of_gt oG,fun hm=>aS (List.mem_map.mp hm) fun q z1=>ay z1 fun hq e=>?_⟩
    clear z1
    have:=oF q hq
    have e:q.1=f:=e
    exact absurd (Nat.lt_trans this oG) (by rw[e];exact Nat.lt_irrefl _)
   ·intro hm
    refine aS (List.mem_map.mp hm) fun q z1=>ay z1 fun hq e=>?_
    clear z1
    have:=oF q hq
    have e:q.1=c':=e
    exact absurd this (by rw[e];exact Nat.lt_irrefl _)
  ·exact h f _ [(c',oc)] _ s2 S2 (.inr ⟨c',oc,vs,t,rfl,List.mem_append_left _ (.head _),hd,hv⟩) fun q hq=>Nat.lt_trans (oF q hq) oG
 ·refine nestHit_K (ps:=#[rawInt aI.line,rawInt aI.col,.ref c']) (c':=c') S.F S.N C.T hC rfl (u (tabObj #[])).mem trivial ?_ fY fun f iU eN h' tk F' N' lt=>?_
  ·show codeAmong aI [rawInt aI.line,rawInt aI.col,.ref c']=_
   unfold rawInt
   simp[codeAmong]
  ·have e:g (tabObj #[rawInt aI.line,rawInt aI.col,.ref c'])=aa:=(u _).same
   refine jo (ai:=ai) (aa:=(f,fnMade name bw aF bL aq AZ eN ((gx.gg "__name__").getD .none) c' iU)::aa) ⟨F',N',S.nd lt,by rw[S.R]⟩ (hk:=hk) (hl:=hl) fun s2 S2=>?_
   exact h f _ [] #[rawInt aI.line,rawInt aI.col,.ref c'] s2 (by rw[e];exact S2) (.inr ⟨c',oc,vs,t,rfl,by rw[e];exact hm,hd,hv⟩) lt
end
theorem ZX(P:Params):codeHdIn (KF P) 1081 1077=true:=by kernel_rfl
section
theorem Vz{tn:Tok}{ps:Array Value}{gt:Obj→List (Addr×Obj)}(C:Cx gx aH A ae aE az L (dp+4) (un+12))(S:St ai ae L s l aa)(df:nm.length≤1000)(hT:dX aa v9 wa ps)(ut:∀o',Up 1077 (tabObj ps) o' aa (gt o'))(ret:∀x aw da s',St ai ae L s' l (aw++gt (tabObj da))→dX (aw++gt (tabObj da)) v9 wa da→R (.ok (.ret (.ref x))) s'):
  codeAny (model af gx.gw) A (.call (.ref 1082) ⟨[.str nm tn],[]⟩) R s:=by
 refine xbC C S (fun g1 L1 s oc fH C S=>bo ?_)
 intro Kz Ez
 refine ec ?_
 intro Kz
 refine xhx (g:=fun o'=>(L1+1,oc)::gt o') (AZ:=[(q "name",L1+1)]) C S (ZX _) (hT.mem fun c' oc vs hm zz zz=>mT hm) (fun o'=>Up.tail (ut o')) (by kernel_rfl) rfl rfl rfl (by kernel_rfl) kf kk (fun fl fo BH da s S mG SK=>ec ?_)
 intro Kz
 refine wpAny_Return_some<|iJ C S (aA (pU _)) (Q6 _)<|spliced_more ?_
 exists wpAny_BinOp<|bE S (fun bp s S=>jI S vX (mT (mA mH)) fH ?_)
 refine iI S (Nat.le_trans (Nat.add_le_add (bI (by kernel_rfl)) df) (by decide)) (fun ta s S=>spliced_more ?_)
 exists wpAny_Constant_bool<|bQ S ah<|cz S (fun bO s S=>?_)
 refine iE C S<|xeE C S (fun x3 d4 ej kj s S h6 l7 l8=>aT S (fun S=>?_))
 exact ret x3 ((x3,_)::(d4,_)::(fl,_)::(BH++[(L1+1,oc)])) da s (by simpa using S) (mG.mem fun c2 m9 vs2 hm hd2 zz=>by
  simp only[List.mem_append,List.mem_cons] at hm ⊢
  rcases hm with h|h|h<;>simp[h])
end
def iA(W:List Addr)(aa:List (Addr×Obj))(v:Addr)(xs:List Str):Prop:=∃tk it vs k,cC W aa v 487 (cN (q "character") tk (.ref it) .none)∧Fz W aa it (listOf vs k)∧StrsAre vs.toList xs
theorem iA.step{W W' F aa ag v x}(h:iA W aa v x)(k:Kp F aa ag)(hF:∀a∈F,a∈W)(g:Wx W W' aa):iA W' ag v x:=by
 obtain⟨tk,it,vs,n,a,b,c⟩:=h
 exact⟨tk,it,vs,n,a.step k hF g,b.step k hF g,c⟩
theorem iA.mem{W aa ag v x}(h:iA W aa v x)(k:∀p∈aa,p∈ag):iA W ag v x:=by
 obtain⟨tk,it,vs,n,a,b,c⟩:=h
 exact⟨tk,it,vs,n,a.mono (.fq k),b.mono (.fq k),c⟩
theorem iA.up{W aa v x}{p:Addr×Obj}(h:iA W aa v x):iA W (p::aa) v x:=h.mem fun zz m=> .tail _ m
theorem iA.app{W aa aw v x}(h:iA W aa v x):iA W (aw++aa) v x:=h.mem fun zz m=>mA m
section
variable {cf:List (Addr×Obj)} {W':List Addr} {i di gl:Addr} {F F':List Addr} {b b':Bool} {cs gR:List (Str×CA)} {eX:List (Str×List Str)}
theorem ee.refl(Y:Sys af w W aa i di gl F b cs us):ee af w W aa F i di gl W aa F b cs us:=⟨.refl,fun p h zz=>h,Y,fun p h=>⟨p.2,h⟩,fun a m=> .inl m⟩
theorem cg.tabs{t dc du:Addr}(S1:St ai ae L s l ag)(P:cg af w W aa F i di gl W' ag [dc,du] b cs us)(kk:∀p∈ag,p.1≠dc→p.1≠du→p∈cf)(kd:∀p∈ag,∃o,(p.1,o)∈cf)(T2:Tab af w W' cf t dc du gR eX):cg af w W aa F i di gl W' cf [dc,du] b gR eX:=by
 refine aO P.y.y.Hl fun c1 c2 c3=>?_
 have kp:Kp W' ag cf:=fun p hp hw=>kk p hp (fun e=>hw (e▸c1)) (fun e=>hw (e▸c2))
 have nF:∀a:Addr,(a∈F∨∀p∈aa,p.1≠a)→∀p∈aa,p.1∉(429::1077::di::F:List Addr)→p.1≠a:=fun a h p hp hn e=>by
  rcases h with h|h
  ·exact hn (by rw[e];exact .tail _ (.tail _ (.tail _ h)))
  ·exact h p hp e
 have nd:∀{P:Addr} {o:Obj},(P,o)∈ag→(∀es n,o.data≠.dict es n)→P≠dc∧P≠du:=fun m h=>by
  have z:=Sys.nd S1 P.y.y m h
  exact⟨fun e=>z (by rw[e];exact .tail _ (.head _)),fun e=>z (by rw[e];exact .tail _ (.tail _ (.head _)))⟩
 have tc:∀{aI Q ps},dX ag aI Q ps→dX cf aI Q ps:=fun h=>h.mem fun c' oc vs m hd zz=>by
  obtain⟨a,b⟩:=nd m fun es n e=>by rw[hd] at e;cases e
  exact kk _ m a b
 refine cB P.y.y.ex fun od al lim s4 z1=>bB z1 fun m hA hI T=>?_
 clear z1
 have hF:=P.y.y.hF
 simp only[List.mem_cons,not_or] at hF
 refine⟨P.g,fun p hp hn=>kk p (P.k p hp hn) (nF dc (P.f dc (.head _)) p hp hn) (nF du (P.f du (.tail _ (.head _))) p hp hn),⟨⟨P.y.y.hi.mono kp,P.y.y.eZ,⟨od,al,lim,s4,kk _ m hF.1 hF.2.1,hA,hI,?_⟩,fun a ha=>?_,P.y.y.hF⟩,P.y.w1,P.y.w2,?_,?_⟩,fun p hp=>?_,P.f⟩
 ·cases T with
  |i a T' _ _ _=>exact .i (a.mono kp) ⟨T'.i.mono kp,T2.c,T2.u,T2.z⟩ c1 c2 c3
 ·obtain⟨o,ho⟩:=P.y.y.hW a ha;exact kd (a,o) ho
 ·refine aS P.y.t1 fun ps z1=>ay z1 fun a t=>?_
  clear z1
  obtain⟨x,y⟩:=nd a fun es n e=>by cases e
  exact⟨ps,kk _ a x y,tc t⟩
 ·refine aS P.y.t2 fun ps z1=>ay z1 fun a t=>?_
  clear z1
  obtain⟨x,y⟩:=nd a fun es n e=>by cases e
  exact⟨ps,kk _ a x y,tc t⟩
 ·obtain⟨o,ho⟩:=P.o p hp;exact kd (p.1,o) ho
theorem cg.gen(S1:St ai ae L s l ag)(P:cg af w W aa F i di gl W' ag F' b cs us){ps da:Array Value}{aw:List (Addr×Obj)}(h:(1077,tabObj ps)∈ag)(jw:dX ag v9 wa ps)(u:Up 1077 (tabObj ps) (tabObj da) ag cf)(hT:dX (aw++cf) v9 wa da):
  cg af w W aa F i di gl W' (aw++cf) F' b cs us:=by
 refine⟨P.g,fun p hp n=>mA (u.keep (P.k p hp n) fun e=>n (by rw[show p.1=1077 from e];exact .tail _ (.head _))),⟨(P.y.y.upd S1 h P.y.w2 u).app,P.y.w1,P.y.w2,?_,⟨da,mA u.jE,hT⟩⟩,fun p hp=>?_,P.f⟩
 ·refine aS P.y.t1 fun oS z1=>ay z1 fun a t=>?_
  clear z1
  refine⟨oS,mA (u.keep a (show(429:Addr)≠1077 by decide)),t.mem fun c' oc vs m hd hv=>mA (u.keep m fun e=>?_)⟩
  have e:c'=1077:=e
  subst e
  have:=S1.uniq m h
  subst this
  injection hd with hd
  obtain⟨t',hv⟩:=hv
  rw[←hd] at hv
  exact jw.no hv
 ·obtain⟨o,ho⟩:=P.o p hp
  obtain⟨o2,h2⟩:=u.mz (p.1,o) ho
  exact⟨o2,mA h2⟩
theorem cg.pi(S1:St ai ae L s l ag)(P:cg af w W aa F i di gl W' ag F' b cs us){od dM:Obj}{jO:List (Str×Value)}{lim s4:Value}(m:(di,od)∈ag)(hT:AO af w W' ag s4 F' cs us)(u:Up di od dM ag cf)(hA:bG dM jO)(hI:lx b' s4 gl lim jO)(hd:∃es n,od.data= .dict es n):cg af w W aa F i di gl W' cf F' b' cs us:=by
 have kp:Kp W' ag cf:=fun p hp hn=>u.keep hp fun e=>hn (e▸P.y.y.eZ)
 have nd:∀{P:Addr} {o:Obj},(P,o)∈ag→(∀es n,o.data≠.dict es n)→P≠di:=fun m h=>by
  have z:=Sys.nd S1 P.y.y m h
  exact fun e=>z (by rw[e];exact .head _)
 have tc:∀{aI Q ps},dX ag aI Q ps→dX cf aI Q ps:=fun h=>h.mem fun c' oc vs m hd zz=>u.keep m (nd m fun es n e=>by rw[hd] at e;cases e)
 have hF:=P.y.y.hF
 refine⟨P.g,fun p hp hn=>u.keep (P.k p hp hn) fun e=>hn (by rw[show p.1=di from e];exact .tail _ (.tail _ (.head _))),⟨⟨P.y.y.hi.mono kp,P.y.y.eZ,⟨dM,jO,lim,s4,u.jE,hA,hI,?_⟩,fun a ha=>?_,hF⟩,P.y.w1,P.y.w2,?_,?_⟩,fun p hp=>?_,P.f⟩
 ·cases hT with
  |u=>exact .u
  |@i st mt t dc du cs us a T h1 h2 h3=>
   simp only[List.mem_cons,not_or] at hF
   exact .i (a.mono kp) ⟨T.i.mono kp,T.c.mono (fun zz zz zz h=>h.mono kp) fun zz h=>u.keep h (Ne.symm hF.1),T.u.mono (fun zz zz zz h=>h.mono kp) fun zz h=>u.keep h (Ne.symm hF.2.1),T.z⟩ h1 h2 h3
 ·obtain⟨o,ho⟩:=P.y.y.hW a ha;exact u.mz (a,o) ho
 ·refine aS P.y.t1 fun ps z1=>ay z1 fun a t=>?_
  clear z1
  exact⟨ps,u.keep a (nd a fun es n e=>by cases e),tc t⟩
 ·refine aS P.y.t2 fun ps z1=>ay z1 fun a t=>?_
  clear z1
  exact⟨ps,u.keep a (nd a fun es n e=>by cases e),tc t⟩
 ·obtain⟨o,ho⟩:=P.o p hp;exact u.mz (p.1,o) ho
end
section
theorem xis{i di gl:Addr}{F:List Addr}{b:Bool}{cs:List (Str×CA)}{ac:Addr}{ak:Nat}{ta tb:Addr}{c1 c2:Nat}{tm:Tok}{va vb:Addr}{a:Str}{ev:Value}(C:Cx gx aH A ae aE az L (dp+10) (un+30))(S:St ai ae L s l aa)(Z:Bs gx)(Y:dI af gx.gw W aa i di gl F b cs us)(dB:(ac,listOf #[.ref ta,.ref tb] ak)∈aa)(ia:(ta,bK #[.none,.ref va] c1)∈aa)(kZ:(tb,bK #[.str (q "members") tm,.ref vb] c2)∈aa)(Va:cS W aa va a)(Vb:iA W aa vb ms)(fZ:ms.length≤100)(jA:∀m∈ms,m.length≤1000)(df:a.length≤1000)(hx:(a==q "ANY")=false)(ic:Small (bT cs a ⟨true,[]⟩) (bT us a ms))(ret:∀W' ag F' v s',ms.findSome? (iB cs us a)=none→St ai ae L s' l ag→cg af gx.gw W aa F i di gl W' ag F' false (bT cs a ⟨true,[]⟩) (bT us a ms)→R (.ok (.ret (.ref v))) s')(kx:∀W' ag F' bz fQ e s',ms.findSome? (iB cs us a)=some bz→KtsTurn (fA aE) ae fQ→cg af gx.gw W aa F i di gl W' ag F' b cs us→dN ai fQ L s' l ag e bz .none→R (.error (.ref e)) s'):
  codeAny (model af gx.gw) A (.call (.ref 1094) ⟨[.ref i,.ref ac,ev],[]⟩) R s:=by
 have C0:=C
 refine xbE C S (fun g1 L1 s FG C S=>bo ?_)
 intro Kz Ez
 refine cB Vb fun ltk lit Jk lk z1=>aO z1 fun LI LF uQ=>?_
 clear Vb z1
 have Ir:=bX (cG uQ)
 have Iw:Jk.size≤sizeLine:=by rw[sizeLine_eq];exact nc fZ Ir
 refine ec ?_
 intro Kz
 refine aX<|aY C S (vp _) ?_
 exists bQ S (am ah) ?_
 refine spliced_more ?_
 exists List_<|be S (fun bp s S=>be S (fun bO s S=>cz S (fun cu s S=>?_)))
 refine dm S aG (fun x4 s S i2=>dy C S<|AA (ps:=[(none,.ref va),(some (q "members"),.ref vb)]) C S mH (mT dB) (.cons _ _ (.cons _ _ (.cons _ _ .nil))) (.cons ⟨ta,c1,.none,rfl,(mT ia),rfl⟩ (.cons ⟨tb,c2,.str (q "members") tm,rfl,(mT kZ),⟨_,rfl⟩⟩ .nil)) aG xif xia aG (fun r vs vk aw s S ci=>?_))
 have ez:vs=#[.ref va,.ref vb,.none]:=by
  apply Array.toList_inj.mp
  rw[ci]
  kernel_rfl
 subst ez
 refine aW S (fun s S=>ec ?_)
 intro Kz
 refine aX<|aY C S (nQ _)<|spliced_more<|Subscript_ ?_
 exists ap S ah<|bf S (fun ed s S=>?_)
 refine cL S mH (by decide) (by decide) (x:= .ref va) rfl ?_
 exists cz S (fun mj s S=>?_)
 refine bh C S<|cB Va fun z1 BA GU z2 z3=>ay z3 fun ly lw=>?_
 clear Va z3
 refine pe C S ly.up.app.up.inst (mT (mA (mT lw.1))) (fun s S=>aW S (fun s S=>ec ?_))
 intro Kz
 refine US kf (uX (by kernel_rfl)) (lb (by kernel_rfl)) (namesOk (by kernel_rfl)) ?_ (gz:=rfl)
 refine aY C S (Bh _)<|spliced_more<|Subscript_ ?_
 exists ap S (am ah)<|bf S (fun ml s S=>?_)
 refine cL S mH (by decide) (by decide) (x:= .ref vb) rfl<|dy C S<|Vy C S LI.up.app.up.inst .none .none (mT (mA (mT LF.1))) Iw uQ (fun P pv pn ud s S lP iP=>?_)
 have dQ:=iP.len
 rw[Array.length_toList,List.length_map] at dQ
 refine dg C.hh S mH (fun Ix oi s S hO Wi=>?_)
 refine PX (d:=Ix) (j:=(fun i ys ag=>ag=((P,listOf pv pn)::(ud++((r,_)::(aw++((x4,_)::aa)))):List (Addr×Obj))∧StrsAre ys (ms.take i))) (pt rfl Wi S hO (by rw[sizeLine_eq];exact nc fZ dQ) ⟨rfl,.nil⟩ (fun zz zz zz hJ=>by obtain⟨rfl,_⟩:=hJ;exact mH) (fun i v s lc ys k D Cn oL ag it EE hi hv hJ hL jx lI S=>?_) (fun D ys k ag s hJ S=>?_))
 ·obtain⟨rfl,dh⟩:=hJ
  refine f9 (iP.get (i:=i) (by simpa using hv)) fun tp x0 y0 ta0 tb0 tc0 z1=>aO z1 fun z2 dC ql=>?_
  clear z1
  subst z2
  have IT:ms[i]?=some y0:=by rw[List.getElem?_map] at dC;cases e:ms[i]?<;>simp[e] at dC ⊢;exact dC.2
  refine nl C.hh S rfl (ch (List.mem_append_left _ ql)) (fun s S=>?_) (hk:=rfl) (hx:=(by kernel_rfl)) (hy:=(by kernel_rfl))
  refine wpAny_tests_nil<|er<|lj S rfl ah ?_ (hk:=rfl) (hl:=(by kernel_rfl))
  exact eK (bW S hL rfl (by rw[take_snoc IT];exact mh dh (.cons _ _ .nil)))
 obtain⟨rfl,dh⟩:=hJ
 rw[List.take_of_length_le (by exact fK dQ)] at dh
 refine ec ?_
 intro Kz
 refine wpAny_Expr<|methodCall_KW<|Attribute_any_<|aY C S (pW _) ?_
 exists aU S (i1 ah) ?_
 refine bh C S ?_
 have SB:=S
 have Y2:=dI.on S Y.up.app.up.app.up.up
 have Y1:=Y2.y
 have xew:=Sys.nd S Y1 mH (fun zz zz e=>by cases e)
 refine uF C S Y1 (fun W1 e9 st mt t dc du s S P1 I1 T=>?_)
 have SS:=P1.k _ mH xew
 have S1:=S
 have P2:=P1.two SB Y2
 refine aO P1.y.Hl fun c1 c2 c3=>?_
 have xex:=Sys.nd S P1.y SS (fun zz zz e=>by cases e)
 refine gU C S (pO _) I1.inst (aB ah) bA (fun s S=>fw C S (ij (jd _) (kl _) ⟨aA (aj (aj (qG _))),aA (aj (aj (aj (qG _))))⟩) T.i.inst (bj (bj (dP))) ?_)
 exists bQ S (am ah)<|aU S ah ?_
 refine bh C S ?_
 refine xiR (mv:=ys.toArray) C S T Z SS (by simpa using dh) fZ jA df hx P1.y.hW c1 c2 c3 (fun e=>xex (by rw[e];exact .tail _ (.head _))) ic (fun cf s fG S kk kd T2=>?_) (fun bz h3 e s dO t1 X=>?_)
 rotate_left
 ·have C:=C.turn Z t1
  refine nv C (.inr (.inl X)) fun g2 s t2 X=>aS (dN.jr C0 FG (KtsTurn.fs C0 (t1.trans t2)) X) fun h4 z1=>ay z1 fun t4 X=>?_
  clear z1
  exact kx W1 e9 [dc,du] bz h4 e s dO t4 (P2.pre fun zz h=>mT (mT (mA (mT (mA (mT (h))))))) X
 have P3:=cg.tabs S1 P2 kk kd T2
 refine ec ?_
 intro Kz
 refine wpAny_Return_some<|aY C S (R1 _) ?_
 exists bQ S (i1 ah) ?_
 refine spliced_more<|aY C S (RY _) ?_
 exists aU S (am ah) ?_
 refine bh C S<|aS P3.y.t2 fun nf z1=>ay z1 fun mU jw=>?_
 clear z1
 obtain⟨gt,ut⟩:=Up.ex S mU
 have S3:=S
 refine Vz C S df jw ut (fun gx xcE O4 s S H2=>?_)
 have P4:=cg.gen S3 P3 mU jw (ut _) H2
 refine dy C S<|cB P4.y.y.ex fun od al lim s4 z1=>bB z1 fun v8 hA hI H0=>?_
 clear z1
 obtain⟨gv,uv⟩:=Up.ex S v8
 have S4:=S
 refine Vx C S P4.y.y.hi.1 hA hI uv (fun ki W6 s S HR vy=>?_)
 have P5:=cg.pi S4 P4 v8 H0 (uv _) HR vy (by obtain⟨es,n,rfl,_⟩:=hA;exact⟨_,_,rfl⟩)
 replace S:=St.back FG S
 exact ret W1 _ [dc,du] gx s fG S (P5.pre fun zz h=>mT (mT (mA (mT (mA (mT (h)))))))
end
theorem xar(cs us):gq cs us (q "numeric") (q "numeric")=some 0:=by unfold gq;rw[if_pos (by simp)]
theorem xhC{o:Option Int}{t:Tok}(h:Q (.bool (!o.isSome)) s):wpAny M A (compareOp .Is (OD o t) .none) Q E s:=by
 cases o with
 |none=>exact is_none_none h
 |some k=>exact is_int_none h
noncomputable def gO(cs:List (Str×CA))(us:List (Str×List Str))(nm m:Str):Option Str:=if ig cs m=false then some (qw m nm) else if (m==nm||(gq cs us m nm).isSome)=true then some (m7 nm) else none
theorem Z5{cs us nm m}(h:ig cs m=false):gO cs us nm m=some (qw m nm):=by unfold gO;rw[if_pos h]
theorem QE{cs us nm m}(h:ig cs m=true)(h2:(m==nm||(gq cs us m nm).isSome)=true):gO cs us nm m=some (m7 nm):=by unfold gO;rw[if_neg (by rw[h];decide),if_pos h2]
theorem Z4{cs us nm m}(h:ig cs m=true)(h2:(m==nm)=false)(h3:(gq cs us m nm).isSome=false):gO cs us nm m=none:=by unfold gO;rw[if_neg (by rw[h];decide),h2,h3];rfl
theorem all_none{α β:Type}{f:α→Option β}{l:List α}(h:l.findSome? f=none){a:α}(ha:a∈l):f a=none:=List.findSome?_eq_none_iff.mp h a ha
set_option tactic.hygienic true in
theorem Z0 {cs us nm m} (h:gO cs us nm m=none):ig cs m=true:=by
 unfold gO at h
 split at h
 ·cases h
 ·rename_i z;simpa using z
section
theorem xiT{t dc du:Addr}{cs:List (Str×CA)}{c sl cl pr sn tp AD ck:Nat}{jR AE uI:Tok}{cv:Array Value}{sup:List Str}(C:Cx gx aH A ae aE az L (dp+7) (un+21))(S:St ai ae L s l aa)(T:Tab af gx.gw W aa t dc du cs us)(CI:cC W aa c 304 [(q "prototype",.ref pr),(q "virtual",.bool false),(q "validity",.none),(q "contains",.ref cl),(q "slots",.ref sl),(q "name",.str nm jR)])(SL:Fz W aa sl (listOf #[.ref tp] sn))(TP:Fz W aa tp (bK #[.str (q "s") AE,.str (q "numeric") uI] AD))(CL:Fz W aa cl (listOf cv ck))(ny:StrsAre cv.toList sup)(dO:∀m∈sup,(m==q "ANY")=false∧((aM cs m).isSome=true→∀p∈dn cs us m,(aM cs p.1).isSome=true∨nI.any (·==p.1)=false))(ret:∀aw s',St ai ae L s' l (aw++aa)→R (.ok (.ret .none)) s'):
  codeAny (model af gx.gw) A (.call (.ref 420) ⟨[.ref t,.ref c],[]⟩) R s:=by
 refine xck C S (fun g1 L1 s C S=>bo ?_)
 intro Kz Ez
 have fY:=bX (cG ny)
 refine ec ?_
 intro Kz
 refine aX<|i5 C S (fun d1 s S vV iH=>aW S (fun s S=>?_))
 have ji:=iH
 refine ec ?_
 intro Kz
 refine cD<|a9 C S (am ah) (RU _) CI.up.inst (bR ah) bA (fun s S=>dg C.hh S (mT SL.1) (fun Ix oi s S hO Wi=>?_))
 refine dF Wi S hO (fun i l' ag=>(l'.lookup (q "table")=some (.ref t)∧l'.lookup (q "c")=some (.ref c)∧l'.lookup (q "seen")=some (.ref d1))∧∃o aD,ag=(((d1,o)::aa):List (Addr×Obj))∧o.IsDictOf (PySem.strKind af gx.gw) aD∧(i=0→aD=[])∧(1≤i→∃tk,aD=[(q "s",.str (q "numeric") tk)])) ⟨⟨(aB ah),(am ah),ah⟩,_,_,rfl,lB,fun zz=>rfl,fun h=>absurd h (by decide)⟩ (fun zz zz zz hJ=>by obtain⟨_,_,_,rfl,_⟩:=hJ;exact mT SL.1) (fun i vv s l' ag it hi hv hJ S=>?_) (fun s l' ag hJ S=>?_)
 ·intro Kz Ez
  refine ay hJ fun z1 z2=>aO z1 fun hT hC hD=>aP z2 fun o aD z3=>bB z3 fun z4 ho n7 z5=>?_
  clear hJ z1 z2 z3
  refine xS1 z4 S fun S=>?_
  obtain rfl:i=0:=by simp at hi;exact Gi hi
  obtain rfl:=n7 rfl
  obtain rfl:vv= .ref tp:=by simpa using hv.symm
  exists dG S ?_
  intro lz dz S
  refine nl C.hh S rfl (bc TP.1) (fun s S=>ec ?_)
  intro Kz
  refine br ?_
  exists ap S (am ah)<|ap S (aB hD) ?_
  refine Gt (b:=false) S (mT mH) ho ji rfl (fun s S=>?_)
  exists ei ?_
  refine wpAny_execs_nil<|ec ?_
  intro Kz
  refine wpAny_Assign_Subscript ?_
  exists ap S ah<|ap S (aB hD)<|ap S (am ah) ?_
  refine jn S (fun zz=>(Up.tail Up.head)) ho (Nat.zero_le _) (fun o2 s fg S=>wpAny_execs_nil<|aN (aR S (aR (aB hT) (aB hC) (aB hD)) (aN (bW rfl fg (fun h=>absurd h (by decide)) (fun zz=>⟨uI,rfl⟩)))))
 refine ay hJ fun z1 z2=>aO z1 fun hT hC hD=>aP z2 fun o aD z3=>bB z3 fun z4 ho z5 hk1=>?_
 clear hJ z1 z2 z3
 refine Wq z4 S fun S=>?_
 obtain⟨tk,rfl⟩:=hk1 (by simp)
 refine ec ?_
 intro Kz
 refine cD<|a9 C S hC (HE _) CI.up.inst (aV ah) bA (fun s S=>dg C.hh S (mT CL.1) (fun Ix oi s S hO Wi=>?_))
 refine dF Wi S hO (fun i l' ag=>(l'.lookup (q "table")=some (.ref t)∧l'.lookup (q "c")=some (.ref c)∧l'.lookup (q "seen")=some (.ref d1))∧∃aw,ag=(aw++(d1,o)::aa:List (Addr×Obj))) ⟨⟨hT,hC,hD⟩,[],rfl⟩ (fun zz zz zz hJ=>by obtain⟨_,_,rfl⟩:=hJ;exact mA (mT CL.1)) (fun i vv s l' ag it hi hv hJ S=>?_) (fun s l' ag hJ S=>?_)
 ·intro Kz Ez
  refine ay hJ fun z1 z2=>aO z1 fun hT hC hD=>aS z2 fun aw z3=>?_
  clear hJ z1 z2
  refine xS1 z3 S fun S=>?_
  refine aP (eW ny (i:=i) (by simpa using hv)) fun m tm z1=>ay z1 fun z2 hm=>?_
  clear z1
  subst z2
  obtain⟨IU,hDm⟩:=dO m (List.mem_of_getElem? hm)
  exists dG S ?_
  intro lz dz S
  refine eu S (fun s S=>ec ?_)
  intro Kz
  refine cD<|methodCall_KW ?_
  exists ap S (am hT) ?_
  refine fw C S (Jo _) T.up.app.up.i.inst (bj (bj (dP))) ?_
  exists aU S ah ?_
  refine bh C S<|Pu C S T.up.app.up IU hDm (fun r rv rn uy s S bq=>dg C.hh S mH (fun Iy oj s S eP Wj=>?_))
  refine dF Wj S eP (fun j l' ag=>(l'.lookup (q "table")=some (.ref t)∧l'.lookup (q "c")=some (.ref c)∧l'.lookup (q "seen")=some (.ref d1))∧ag=((r,listOf rv rn)::(uy++(it::(aw++(d1,o)::aa))):List (Addr×Obj))) ⟨⟨(am hT),(am hC),(am hD)⟩,rfl⟩ (fun zz zz zz hJ=>by obtain⟨_,rfl⟩:=hJ;exact mH) (fun j mq s l' ag i0 hj ez hJ S=>?_) (fun s l' ag hJ S=>?_)
  ·intro Kz Ez
   obtain⟨⟨hT,hC,hD⟩,rfl⟩:=hJ
   refine f9 (bq.get (i:=j) (by simpa using ez)) fun t1 x1 y1 jK gX kA z1=>aO z1 fun z2 dC dR=>?_
   clear z1
   subst z2
   obtain⟨rfl,rfl⟩:x1=q "s"∧y1=q "numeric":=by have z:=List.mem_of_getElem? dC;unfold f0 at z;split at z<;>simp at z;exact z
   exists dG S ?_
   intro lz dz S
   refine nl C.hh S rfl (bc (List.mem_append_left _ dR)) (fun s S=>ec ?_)
   intro Kz
   refine wpAny_If<|isTrue_and<|wpAny_isTrue_Compare1 ?_
   exists ap S (am ah)<|ap S (aB hD) ?_
   refine Gt (b:=true) S (bc (mA (mT (mA mH)))) ho ji (by simp[valueAt]) (fun s S=>?_)
   exists gZ ?_
   refine isTrue_and<|wpAny_isTrue_Compare1<|methodCall_KW ?_
   exists ap S (aB hT) ?_
   refine fw C S (BO _) T.up.app.up.app.up.up.i.inst (bj (bj (dP)))<|spliced_more<|Subscript_ ?_
   exists ap S (aB hD)<|ap S (am ah) ?_
   refine UY (v:= .str (q "numeric") tk) S (bc (mA (mT (mA mH)))) ho (by simp[valueAt]) (fun s S=>?_)
   exists aU S ah ?_
   refine bh C S<|GG C S T.up.app.up.app.up.up nk (fun tq s S=>?_)
   rw[xar]
   refine wpAny_Constant_none<|xhC<|gY rfl ?_
   exists cJ ?_
   refine wpAny_execs_nil<|wpAny_execs_nil<|aN (aR S (aR (aB hT) (aB hC) (aB hD)) rfl)
  obtain⟨⟨hT,hC,hD⟩,rfl⟩:=hJ
  refine wpAny_execs_nil ?_
  have S:=St.perm (ag:=it::(((r,_)::(uy++aw))++(d1,o)::aa)) S (pc fun f=>by simp only[List.countP_append,List.countP_cons];ac_rfl)
  refine aN (aR S (aR hT hC hD) (iu rfl))
 refine ay hJ fun z1 z2=>aO z1 fun hT hC hD=>aS z2 fun aw z3=>?_
 clear hJ z1 z2
 refine Wq z3 S fun S=>?_
 refine wpAny_execs_nil<|aT S (fun S=>?_)
 exact ret (aw++[(d1,o)]) s (by simpa using S)
end
def DK(cs:List (Str×CA))(us:List (Str×List Str))(m:Str):Prop:=(aM cs m).isSome=true→∀p∈dn cs us m,(aM cs p.1).isSome=true∨nI.any (·==p.1)=false
section
theorem xiQ{t dc du:Addr}{cs:List (Str×CA)}{c sl cl pr sn tp AD ck:Nat}{jR AE uI:Tok}{cv:Array Value}{sup:List Str}(C:Cx gx aH A ae aE az L (dp+9) (un+27))(S:St ai ae L s l aa)(T:Tab af gx.gw W aa t dc du cs us)(Z:Bs gx)(CI:cC W aa c 304 [(q "prototype",.ref pr),(q "virtual",.bool false),(q "validity",.none),(q "contains",.ref cl),(q "slots",.ref sl),(q "name",.str nm jR)])(SL:Fz W aa sl (listOf #[.ref tp] sn))(TP:Fz W aa tp (bK #[.str (q "s") AE,.str (q "numeric") uI] AD))(CL:Fz W aa cl (listOf cv ck))(ny:StrsAre cv.toList sup)(fZ:sup.length≤100)(jA:∀m∈sup,m.length≤1000)(df:nm.length≤1000)(qo:∀m∈sup,(m==q "ANY")=false)(vw:∀m∈sup,ig cs m=true→DK cs us m)(Bl:dc∈W)(Ig:dc≠du)(ic:Small (bT cs nm ⟨false,sup⟩) us)(ret:∀ag s',sup.findSome? (gO cs us nm)=none→St ai ae L s' l ag→(∀p∈aa,p.1≠dc→p∈ag)→(∀p∈aa,∃o,(p.1,o)∈ag)→Tab af gx.gw W ag t dc du (bT cs nm ⟨false,sup⟩) us→R (.ok (.ret .none)) s')(kx:∀bz fQ e s',sup.findSome? (gO cs us nm)=some bz→KtsTurn (fA aE) ae fQ→dN ai fQ L s' l aa e bz .none→R (.error (.ref e)) s'):
  codeAny (model af gx.gw) A (.call (.ref 350) ⟨[.ref t,.ref c],[]⟩) R s:=by
 have C0:=C
 refine xca C S (fun g1 L1 s FG C S=>bo ?_)
 intro Kz Ez
 have jz:=bX (cG ny)
 have IF:cv.size≤sizeLine:=by rw[sizeLine_eq];exact nc fZ jz
 refine ec ?_
 intro Kz
 refine cD<|a9 C S ah (HE _) CI.inst (aV ah) bA (fun s S=>dg C.hh S CL.1 (fun Ix oi s S hO Wi=>?_))
 refine dF Wi S hO (fun i l' ag=>(l'.lookup (q "self")=some (.ref t)∧l'.lookup (q "c")=some (.ref c))∧aa=ag∧(sup.take i).findSome? (gO cs us nm)=none) ⟨⟨(am ah),ah⟩,rfl,rfl⟩ (fun zz zz zz hJ=>by obtain⟨_,rfl,_⟩:=hJ;exact CL.1) (fun i vv s l' ag it hi hv hJ S=>?_) (fun s l' ag hJ S=>?_)
 ·intro Kz Ez
  refine aO hJ fun z1 e2 hf=>ay z1 fun hS hC=>?_
  clear hJ z1
  subst e2
  refine aP (eW ny (i:=i) (by simpa using hv)) fun m tm z1=>ay z1 fun z2 hm=>?_
  clear z1
  subst z2
  have gA:=jA m (List.mem_of_getElem? hm)
  have IU:=qo m (List.mem_of_getElem? hm)
  exists dG S ?_
  intro lz dz S
  refine eu S (fun s S=>ec ?_)
  intro Kz
  refine wpAny_If<|isTrue_not<|isTrue_plain<|methodCall_KW ?_
  exists ap S (am hS) ?_
  refine fw C S (S7 _) T.up.i.inst (bj (bj (dP))) ?_
  exists aU S ah ?_
  refine bh C S<|VG C S T.up (fun s S=>?_)
  exists wpAny_truthy_bool ?_
  refine vO (fun c0=>?_) (fun c0=>?_)
  ·refine ec ?_
   intro Kz
   refine ux (w:=gx.gw) C.hh<|aY C S (pV _)<|spliced_more<|JoinedStr_many<|fT ?_
   exists bE S (fun bp s S=>?_)
   refine aN (aR rfl (eI (sL eH (bI (by kernel_rfl))) (by decide))<|fT<|FormattedValue_plain ?_)
   exists ap S ah ?_
   refine oV S gA (fun tf s S=>aN (aR rfl (eI (sL (sL eH (bI (by kernel_rfl))) gA) (by decide))<|fT ?_))
   exists bE S (fun bO s S=>?_)
   refine aN (aR rfl (eI (sL (sL (sL eH (bI (by kernel_rfl))) gA) (bI (by kernel_rfl))) (by decide))<|fT<|FormattedValue_plain<|a9 C S (am hC) (nO _) CI.up.inst (i1 ah) ds (fun s S=>oV S df (fun tf s S=>aN (aR rfl (eI (sL (sL (sL (sL eH (bI (by kernel_rfl))) gA) (bI (by kernel_rfl))) df) (by decide))<|fT ?_))))
   exists bE S (fun cu s S=>?_)
   refine aN (aR rfl (eI (sL (sL (sL (sL (sL eH (bI (by kernel_rfl))) gA) (bI (by kernel_rfl))) df) (bI (by kernel_rfl))) (by decide)) ?_)
   have iZ:=eI (x:=(((((Str.empty++q "no definition was found for superclass “")++m)++q "” in the specification of class “")++nm)++q "”")) (sL (sL (sL (sL (sL eH (bI (by kernel_rfl))) gA) (bI (by kernel_rfl))) df) (bI (by kernel_rfl))) (by decide)
   show wpAny _ _ (joinParts _ []) _ _ _
   exists uj (out:=(((((Str.empty++q "no definition was found for superclass “")++m)++q "” in the specification of class “")++nm)++q "”")) S iZ (fun tj s S=>?_)
   refine spliced_none<|uN (d:=8) (u:=24) (by decide) (by decide) C S (fun e s X0=>uO C (.inl X0) fun g2 s t1 X=>?_)
   have C:=C.turn Z t1
   refine uM C X fun s X=>nv C (.inr (.inr X)) fun g4 s t2 X=>aS (dN.jr C0 FG (KtsTurn.fs C0 (t1.trans t2)) X) fun h3 z1=>ay z1 fun t3 X=>?_
   clear z1
   exact kx _ h3 e s (oZ hm hf (Z5 c0)) t3 (X.up)
  ·refine wpAny_execs_nil<|ec ?_
   intro Kz
   refine wpAny_If<|isTrue_or<|wpAny_isTrue_Compare1 ?_
   exists ap S ah ?_
   refine a9 C S (am hC) (nO _) CI.up.inst (i1 ah) ds (fun s S=>?_)
   exists eq_str<|bV (fun c1=>?_) (fun c1=>?_)
   ·exists er ?_
    refine ec ?_
    intro Kz
    refine ux (w:=gx.gw) C.hh<|aY C S (pV _)<|spliced_more<|JoinedStr_many<|fT ?_
    exists bE S (fun bp s S=>?_)
    refine aN (aR rfl (eI (sL eH (bI (by kernel_rfl))) (by decide))<|fT<|FormattedValue_plain<|a9 C S (am hC) (nO _) CI.up.inst (i1 ah) ds (fun s S=>oV S df (fun tf s S=>aN (aR rfl (eI (sL (sL eH (bI (by kernel_rfl))) df) (by decide))<|fT ?_))))
    exists bE S (fun bO s S=>?_)
    refine aN (aR rfl (eI (sL (sL (sL eH (bI (by kernel_rfl))) df) (bI (by kernel_rfl))) (by decide)) ?_)
    have iZ:=eI (x:=(((Str.empty++q "class “")++nm)++q "” cannot be its own superclass")) (sL (sL (sL eH (bI (by kernel_rfl))) df) (bI (by kernel_rfl))) (by decide)
    show wpAny _ _ (joinParts _ []) _ _ _
    exists uj (out:=(((Str.empty++q "class “")++nm)++q "” cannot be its own superclass")) S iZ (fun tj s S=>?_)
    refine spliced_none<|uN (d:=8) (u:=24) (by decide) (by decide) C S (fun e s X0=>uO C (.inl X0) fun g2 s t1 X=>?_)
    have C:=C.turn Z t1
    refine uM C X fun s X=>nv C (.inr (.inr X)) fun g4 s t2 X=>aS (dN.jr C0 FG (KtsTurn.fs C0 (t1.trans t2)) X) fun h3 z1=>ay z1 fun t3 X=>?_
    clear z1
    exact kx _ h3 e s (oZ hm hf (QE c0 (by rw[c1];rfl))) t3 (X.up)
   ·refine isTrue_or<|wpAny_isTrue_Compare1<|methodCall_KW ?_
    exists ap S (am hS) ?_
    refine fw C S (BO _) T.up.i.inst (bj (bj (dP))) ?_
    exists bQ S ah ?_
    refine spliced_more<|a9 C S (am hC) (nO _) CI.up.inst (i1 ah) ds (fun s S=>dy C S<|GG C S T.up IU (fun tq s S=>wpAny_Constant_none<|Pd ?_))
    exists bV (fun c2=>?_) (fun c2=>?_)
    ·exists er ?_
     refine ec ?_
     intro Kz
     refine ux (w:=gx.gw) C.hh<|aY C S (pV _)<|spliced_more<|JoinedStr_many<|fT ?_
     exists bE S (fun bp s S=>?_)
     refine aN (aR rfl (eI (sL eH (bI (by kernel_rfl))) (by decide))<|fT<|FormattedValue_plain<|a9 C S (am hC) (nO _) CI.up.inst (i1 ah) ds (fun s S=>oV S df (fun tf s S=>aN (aR rfl (eI (sL (sL eH (bI (by kernel_rfl))) df) (by decide))<|fT ?_))))
     exists bE S (fun bO s S=>?_)
     refine aN (aR rfl (eI (sL (sL (sL eH (bI (by kernel_rfl))) df) (bI (by kernel_rfl))) (by decide)) ?_)
     have iZ:=eI (x:=(((Str.empty++q "class “")++nm)++q "” cannot be its own superclass")) (sL (sL (sL eH (bI (by kernel_rfl))) df) (bI (by kernel_rfl))) (by decide)
     show wpAny _ _ (joinParts _ []) _ _ _
     exists uj (out:=(((Str.empty++q "class “")++nm)++q "” cannot be its own superclass")) S iZ (fun tj s S=>?_)
     refine spliced_none<|uN (d:=8) (u:=24) (by decide) (by decide) C S (fun e s X0=>uO C (.inl X0) fun g2 s t1 X=>?_)
     have C:=C.turn Z t1
     refine uM C X fun s X=>nv C (.inr (.inr X)) fun g4 s t2 X=>aS (dN.jr C0 FG (KtsTurn.fs C0 (t1.trans t2)) X) fun h3 z1=>ay z1 fun t3 X=>?_
     clear z1
     exact kx _ h3 e s (oZ hm hf (QE c0 (by rw[c2];simp))) t3 (X.up)
    ·exists isTrue_or_nil<|cJ ?_
     refine wpAny_execs_nil<|wpAny_execs_nil ?_
     exact aN (bW S (bC (am hS) (am hC)) rfl (BS hm hf (Z4 c0 c1 c2)))
 refine aO hJ fun z1 e2 hf=>ay z1 fun hS hC=>?_
 clear hJ z1
 subst e2
 rw[List.take_of_length_le (by exact fK jz)] at hf
 refine ec ?_
 intro Kz
 refine wpAny_Expr<|aY C S (xc8 _) ?_
 exists bQ S hS<|aU S hC ?_
 refine bh C S<|xiT C S T CI SL TP CL ny (fun m hm=>⟨qo m hm,vw m hm (Z0 (all_none hf hm))⟩) (fun aw s S=>aP T.c.ex fun oc kc z1=>aO z1 fun fH vC uS=>?_)
 clear z1
 obtain⟨gc,uc⟩:=Up.ex (S.sub (List.sublist_append_right aw aa)) fH
 have j8:=uS.len
 have j7:=T.z.c
 refine ec ?_
 intro Kz
 refine wpAny_Assign_Subscript ?_
 exists ap S hC ?_
 refine a9 C S hS (lD _) T.app.i.inst (am ah) bA (fun s S=>a9 C S hC (nO _) CI.app.inst (i1 ah) ds (fun s S=>?_))
 refine jn S (fun o'=>(Up.app (uc o'))) vC (by rw[sizeLine_eq];exact OE j8 j7) (fun o2 s fg S=>?_)
 refine wpAny_execs_nil ?_
 replace S:=St.back FG S
 have kp:Kp W aa (aw++gc o2):=fun p hp hw=>mA ((uc o2).keep hp fun e=>hw (by rw[show p.1=dc from e];exact Bl))
 have T2:Tab af gx.gw W (aw++gc o2) t dc du (bT cs nm ⟨false,sup⟩) us:=⟨T.i.mono kp,⟨⟨o2,_,mA (uc o2).jE,fg,(uS.mono fun zz zz zz h=>h.mono kp).put ⟨c,jR,sl,cl,pr,rfl,CI.mono kp,⟨cv,ck,CL.mono kp,ny⟩,⟨sn,tp,AE,uI,AD,SL.mono kp,TP.mono kp⟩⟩⟩,T.c.lo⟩,T.u.mono (fun zz zz zz h=>h.mono kp) (fun o h=>mA ((uc o2).keep h (Ne.symm Ig))),ic⟩
 exact ret _ s hf S (fun p hp n1=>mA ((uc o2).keep hp n1)) (fun p hp=>by obtain⟨o,h⟩:=(uc o2).mz p hp;exact⟨o,mA h⟩) T2
theorem xiq{t dc du:Addr}{cs:List (Str×CA)}{c sl cl pr:Nat}{jR:Tok}(C:Cx gx aH A ae aE az L (dp+7) (un+21))(S:St ai ae L s l aa)(T:Tab af gx.gw W aa t dc du cs us)(CI:cC W aa c 304 [(q "prototype",.ref pr),(q "virtual",.bool false),(q "validity",.none),(q "contains",.ref cl),(q "slots",.ref sl),(q "name",.str nm jR)])(PR:Fz W aa pr emptyDict)(prn:(pr==sysModules)=false)(hx:(nm==q "ANY")=false)(hD:DK cs us nm)(ret:∀aw s',St ai ae L s' l (aw++aa)→R (.ok (.ret .none)) s'):
  codeAny (model af gx.gw) A (.call (.ref 1075) ⟨[.ref t,.ref c],[]⟩) R s:=by
 refine xbB C S (fun g1 L1 s C S=>bo ?_)
 intro Kz Ez
 refine ec ?_
 intro Kz
 refine aX<|i5 C S (fun d1 s S vV iH=>aW S (fun s S=>?_))
 have ji:=iH
 refine ec ?_
 intro Kz
 refine cD<|methodCall_KW ?_
 exists ap S (aB ah) ?_
 refine fw C S (Jo _) T.up.i.inst (bj (bj (dP)))<|spliced_more<|a9 C S (am ah) (nO _) CI.up.inst (i1 ah) ds (fun s S=>dy C S<|Pu C S T.up hx hD (fun r rv rn uy s S bq=>dg C.hh S mH (fun Ix oi s S hO Wi=>?_)))
 refine dF Wi S hO (fun i l' ag=>(l'.lookup (q "table")=some (.ref t)∧l'.lookup (q "c")=some (.ref c)∧l'.lookup (q "kinds")=some (.ref d1))∧∃o aD,ag=((r,listOf rv rn)::(uy++((d1,o)::aa)):List (Addr×Obj))∧o.IsDictOf (PySem.strKind af gx.gw) aD∧aD.length≤i) ⟨⟨(aB ah),(am ah),ah⟩,_,_,rfl,lB,Nat.le_refl _⟩ (fun zz zz zz hJ=>by obtain⟨_,_,_,rfl,_⟩:=hJ;exact mH) (fun i vv s l' ag it hi hv hJ S=>?_) (fun s l' ag hJ S=>?_)
 ·intro Kz Ez
  refine ay hJ fun z1 z2=>aO z1 fun hT hC hK=>aP z2 fun o aD z3=>aO z3 fun z4 ho hkz=>?_
  clear hJ z1 z2 z3
  refine xS1 z4 S fun S=>?_
  have dQ:=bX (bq.len)
  have cV:(f0 (lm cs us nm)).length≤1:=by unfold f0;split<;>simp
  refine f9 (bq.get (i:=i) (by simpa using hv)) fun t1 x1 y1 jK gX kA z1=>aO z1 fun z2 dC dR=>?_
  clear z1
  subst z2
  exists dG S ?_
  intro lz dz S
  refine nl C.hh S rfl (bc (List.mem_append_left _ dR)) (fun s S=>ec ?_)
  intro Kz
  refine wpAny_Assign_Subscript ?_
  exists ap S ah<|ap S (aB hK)<|ap S (am ah) ?_
  refine jn S (fun zz=>(Up.tail (Up.tail (Up.app Up.head)))) ho (by rw[sizeLine_eq];exact xeY hi hkz dQ cV) (fun o2 s fg S=>?_)
  refine wpAny_execs_nil<|aN (aR S (aR (aB hT) (aB hC) (aB hK)) (aN (aR rfl fg ?_)))
  unfold stored;split<;>simp<;>omega
 refine ay hJ fun z1 z2=>aO z1 fun hT hC hK=>aP z2 fun o aD z3=>aO z3 fun z4 ho z5=>?_
 clear hJ z1 z2 z3
 refine Wq z4 S fun S=>?_
 refine ec ?_
 intro Kz
 refine uh<|a9 C S hC (fB (jQ _) (Ao _) (Tp _) UF) CI.up.app.up.inst ah bA (fun s S=>?_)
 refine Gu (o:=emptyDict) (aD:=[]) C S lB prn (fun i l' ag=>ag=((r,listOf rv rn)::(uy++((d1,o)::aa)):List (Addr×Obj))) rfl (fun i l' ag hJ=>by subst hJ;exact(mT (mA (mT PR.1)))) (fun i k v AB s' l' ag it hJ hi S=>by simp at hi) (fun s l' ag hJ S=>?_)
 subst hJ
 refine wpAny_execs_nil<|aT S (fun S=>?_)
 exact ret ((r,_)::(uy++[(d1,o)])) s (by simpa using S)
end
section
theorem xhW{z:Str}{px py pz tp:Pos}{kk:Nat}{value:Expr}{Q:Flow→Shared→Prop}(h:wpAny (model af w) A (eval value (envX name aq L a cd cl)) (fun v aL=>wpAny (model af w) A (assign (.Tuple [.Name x px,.Name y py,.Name z pz] kk tp) (envX name aq L a cd cl) v) (fun zz=>Q .next) E aL) E s)(hs:autoParam (swapsWithSole [.Tuple [.Name x px,.Name y py,.Name z pz] kk tp] value aI.line (envX name aq L a cd cl)=pure false) rf)(hw:autoParam (swappedStores [.Tuple [.Name x px,.Name y py,.Name z pz] kk tp] value (envX name aq L a cd cl)=pure none) rf):
  wpAny (model af w) A (exec (.Assign [.Tuple [.Name x px,.Name y py,.Name z pz] kk tp] value aI) (envX name aq L a cd cl)) Q E s:=Assign_Tuple h hs hw
theorem xhV{z:Str}{px py pz tp:Pos}{kk:Nat}{t:Addr}{u q:Value}{n:Nat}{Q:Unit→Shared→Prop}(C:Cx gx aH A ae aE az L dp un)(S:St ai ae L s l aa)(ht:(t,({cls:= .type "tuple",data:= .seq #[u,v,q] n}:Obj))∈aa)(h:∀s',St ai ae L s' ((z,q)::(y,v)::(x,u)::l) aa→Q () s')(hk:autoParam (aq.kind= .function) kr)(hx:autoParam ((envX name aq L a cd cl).kindOf x=some .local) kr)(hy:autoParam ((envX name aq L a cd cl).kindOf y=some .local) kr)(hz:autoParam ((envX name aq L a cd cl).kindOf z=some .local) kr):
  wpAny (model af gx.gw) A (assign (.Tuple [.Name x px,.Name y py,.Name z pz] kk tp) (envX name aq L a cd cl) (.ref t)) Q E s:=by
 refine assign_Tuple_tuple C.hh (S.tup ht) rfl rfl fun h' he=>?_
 have S1:St ai ae L {s with heap:=h'} l aa:=by
  have hn:ae.get? s.heap.objs.size=none:=by
   cases q:ae.get? s.heap.objs.size with
   |none=>rfl
   |some o=>exact absurd (Heap.lt_size (S.F.keep _ _ q)) (Nat.lt_irrefl _)
  refine⟨S.F.extBut he (Nat.le_refl _),fun p hp=>?_,S.D,by rw[S.R]⟩
  have z:=S.N p hp
  exact⟨he _ _ (Nat.ne_of_lt (Heap.lt_size z.1)) z.1,z.2⟩
 show wpAny _ _ (assignInOrder [assign (.Name x px) (envX name aq L a cd cl),assign (.Name y py) (envX name aq L a cd cl),assign (.Name z pz) (envX name aq L a cd cl)] [u,v,q]) _ _ _
 refine assignInOrder_cons (assign_Name (jo S1 (hk:=hk) (hl:=hx) fun s2 S2=>assignInOrder_cons (assign_Name (jo S2 (hk:=hk) (hl:=hy) fun s3 S3=>?_))))
 exact assignInOrder_cons (assign_Name (jo S3 (hk:=hk) (hl:=hz) fun s4 S4=>assignInOrder_nil (h _ S4)))
theorem St.fresh{pre:List (Addr×Obj)}(S:St ai ae L s l (pre++aa))(hW:∀a∈W,∃o,(a,o)∈aa){x:Addr}(h:(x,o)∈pre):x∉W:=fun m=>by
 obtain⟨o2,h2⟩:=hW x m
 have nd:=S.D
 rw[List.map_append] at nd
 have:=(List.nodup_append.mp nd).2.2
 exact this x (ka h) x (ka h2) rfl
theorem St.jT{x:Addr}{aJ:List (Addr×Obj)}(S:St ai ae L s l ((x,o)::aJ))(hs:∀p∈aa,p∈aJ)(hW:∀a∈W,∃o,(a,o)∈aa):x∉W:=fun m=>by
 obtain⟨o2,h2⟩:=hW x m
 have nd:=S.D
 rw[List.map_cons,List.nodup_cons] at nd
 exact nd.1 (List.mem_map.mpr ⟨(x,o2),hs (x,o2) h2,rfl⟩)
theorem St.RQ{x:Addr}{pre aJ:List (Addr×Obj)}(S:St ai ae L s l (pre++aJ))(h:(x,o)∈pre)(hs:∀p∈aa,p∈aJ)(hW:∀a∈W,∃o,(a,o)∈aa):x∉W:=
 S.fresh (fun a m=>let ⟨o,ho⟩:=hW a m;⟨o,hs (a,o) ho⟩) h
end
def jN(af:Program)(w:World)(W:List Addr)(aa:List (Addr×Obj))(v:Addr):Prop:=∃tk it t1 k1 d o n t2 m t3 k2,cC W aa v 487 (cN (q "character") tk (.ref it) (.ref d))∧Fz W aa it (listOf #[.str (q "numeric") t1] k1)∧Fz W aa d o∧o.IsDictOf (PySem.strKind af w) [(q "names",.ref n)]∧(d==sysModules)=false∧
 cC W aa n 487 (cN (q "character") t2 (.ref m) .none)∧Fz W aa m (listOf #[.str (q "s") t3] k2)
theorem xed:aM ([(q "names",())]:List (Str×Unit)) (q "names")=some ():=by kernel_rfl
theorem xee:aM ([(q "names",())]:List (Str×Unit)) (q "dim")=none:=by kernel_rfl
theorem nzS:∀p∈[q "s"].zip [q "numeric"],(p.1==q "")=false:=by
 intro p hp
 simp only[List.zip_cons_cons,List.zip_nil_right,List.mem_singleton] at hp
 subst hp
 exact jj (by decide)
theorem db.one{aw:List (Addr×Obj)}{bv:Array Value}(h:db aw bv.toList [(x,y)]):∃tp ta tb tc,bv=#[.ref tp]∧(tp,bK #[.str x ta,.str y tb] tc)∈aw:=by
 obtain⟨l⟩:=bv
 have h:db aw l [(x,y)]:=h
 cases h with
 |cons m r=>
  cases r
  exact gJ (bC rfl m)
section
theorem xir{i di gl:Addr}{F:List Addr}{b:Bool}{cs:List (Str×CA)}{ac:Addr}{ak:Nat}{ta tb tc:Addr}{c1 c2 c3:Nat}{tm VR:Tok}{va AI vb:Addr}{a:Str}{ev:Value}(C:Cx gx aH A ae aE az L (dp+10) (un+30))(S:St ai ae L s l aa)(Z:Bs gx)(Y:dI af gx.gw W aa i di gl F b cs us)(dB:(ac,listOf #[.ref ta,.ref tb,.ref tc] ak)∈aa)(ia:(ta,bK #[.none,.ref va] c1)∈aa)(kZ:(tb,bK #[.str (q "slots") tm,.ref AI] c2)∈aa)(fJ:(tc,bK #[.str (q "contains") VR,.ref vb] c3)∈aa)(Va:cS W aa va a)(Vs:jN af gx.gw W aa AI)(Vb:iA W aa vb ms)(fZ:ms.length≤100)(jA:∀m∈ms,m.length≤1000)(df:a.length≤1000)(hx:(a==q "ANY")=false)(qg:ms.any (·==q "VIRTUAL")=false)(qo:∀m∈ms,(m==q "ANY")=false)(vw:∀m∈ms,ig cs m=true→DK cs us m)(HS:DK (bT cs a ⟨false,ms⟩) us a)(ic:Small (bT cs a ⟨false,ms⟩) us)(ret:∀W' ag F' v s',ms.findSome? (gO cs us a)=none→St ai ae L s' l ag→cg af gx.gw W aa F i di gl W' ag F' false (bT cs a ⟨false,ms⟩) us→R (.ok (.ret (.ref v))) s')(kx:∀W' ag F' bz fQ e s',ms.findSome? (gO cs us a)=some bz→KtsTurn (fA aE) ae fQ→cg af gx.gw W aa F i di gl W' ag F' b cs us→dN ai fQ L s' l ag e bz .none→R (.error (.ref e)) s'):
  codeAny (model af gx.gw) A (.call (.ref 1089) ⟨[.ref i,.ref ac,ev],[]⟩) R s:=by
 have C0:=C
 refine xbD C S (fun g1 L1 s FG C S=>bo ?_)
 intro Kz Ez
 refine cB Vb fun ltk lit Jk lk z1=>aO z1 fun LI LF uQ=>?_
 clear Vb z1
 have Ir:=bX (cG uQ)
 have Iw:Jk.size≤sizeLine:=by rw[sizeLine_eq];exact nc fZ Ir
 refine kG Vs fun VM Pp st1 sk1 sd so sn VK sm VL Vr z1=>pk z1 fun SI Wy Wz hso sdn WB WA=>?_
 clear Vs z1
 refine ec ?_
 intro Kz
 refine aX<|aY C S (vp _) ?_
 exists bQ S (am ah) ?_
 refine spliced_more ?_
 exists List_<|be S (fun bp s S=>be S (fun bO s S=>be S (fun cu s S=>be S (fun fe s S=>be S (fun ej s S=>be S (fun ed s S=>be S (fun mj s S=>be S (fun ml s S=>be S (fun gH s S=>be S (fun VQ s S=>be S (fun PK s S=>cz S (fun GI s S=>?_))))))))))))
 refine dm S aG (fun pj s S xeh=>dy C S<|AA (ps:=[(none,.ref va),(some (q "slots"),.ref AI),(some (q "contains"),.ref vb)]) C S mH (mT dB) (.cons _ _ (.cons _ _ (.cons _ _ (.cons _ _ (.cons _ _ (.cons _ _ (.cons _ _ (.cons _ _ (.cons _ _ (.cons _ _ (.cons _ _ (.cons _ _ .nil)))))))))))) (.cons ⟨ta,c1,.none,rfl,(mT ia),rfl⟩ (.cons ⟨tb,c2,.str (q "slots") tm,rfl,(mT kZ),⟨_,rfl⟩⟩ (.cons ⟨tc,c3,.str (q "contains") VR,rfl,(mT fJ),⟨_,rfl⟩⟩ .nil))) aG xie xh9 aG (fun r vs vk aw s S ci=>?_))
 have ez:vs=#[.ref va,.none,.none,.ref vb,.none,.none,.none,.none,.none,.none,.none,.ref AI]:=by
  apply Array.toList_inj.mp
  rw[ci]
  kernel_rfl
 subst ez
 refine aW S (fun s S=>ec ?_)
 intro Kz
 refine aX<|aY C S (nQ _)<|spliced_more<|Subscript_ ?_
 exists ap S ah<|bf S (fun xjm s S=>?_)
 refine cL S mH (by decide) (by decide) (x:= .ref va) rfl ?_
 exists cz S (fun xkD s S=>?_)
 refine bh C S<|cB Va fun z1 BA GU z2 z3=>ay z3 fun ly lw=>?_
 clear Va z3
 refine pe C S ly.up.app.up.inst (mT (mA (mT lw.1))) (fun s S=>aW S (fun s S=>ec ?_))
 intro Kz
 refine xhW<|aY C S (xc9 _)<|spliced_more<|Subscript_ ?_
 exists ap S (am ah)<|bf S (fun xkE s S=>?_)
 refine cL S mH (by decide) (by decide) (x:= .none) rfl<|spliced_more<|Subscript_ ?_
 exists ap S (am ah)<|bf S (fun xkF s S=>?_)
 refine cL S mH (by decide) (by decide) (x:= .ref AI) rfl<|spliced_more<|Subscript_ ?_
 exists ap S (am ah)<|bf S (fun xkG s S=>?_)
 refine cL S mH (by decide) (by decide) (x:= .ref vb) rfl<|dy C S ?_
 have DS:Dc af gx.gw aa sd (fun zz zz y=>y= .ref sn) [(q "names",())]:=⟨⟨so,_,Wz.1,hso,.cons rfl .nil⟩,sdn⟩
 refine xio (ys:=[q "s"]) (xs:=[q "numeric"]) C S SI.up.app.up.inst (.dict DS.up.app.up xee) DS.up.app.up xed (fun y h=>h) WB.up.app.up.inst (mT (mA (mT WA.1))) (mT (mA (mT Wy.1))) aG (.cons _ _ .nil) aG (.cons _ _ .nil) rfl nzS LI.up.app.up.inst .none .none (mT (mA (mT LF.1))) Iw uQ qg (fun t9 pa pb pav pak pbv pbk ud s S hpa hpb=>cB hpb.one fun tp tsa tsb tsc z1=>ay z1 fun z2 ql=>?_)
 clear z1
 subst z2
 refine xhV C S mH (fun s S=>ec ?_)
 intro Kz
 refine aX<|aY C S (xdi _)<|spliced_more<|Subscript_ ?_
 exists ap S (bR ah)<|bf S (fun xkH s S=>?_)
 refine cL S (b5 (mA mH)) (by decide) (by decide) (x:= .none) rfl<|dy C S<|xip C S (fun pd s S lpd npd=>aW S (fun s S=>ec ?_))
 intro Kz
 refine wpAny_If ?_
 exists isTrue_and ?_
 refine wpAny_isTrue_Compare1<|eU C S (eO _) eL ?_
 exists aU S (aV ah) ?_
 refine eV S (b5 mH) aG (fun tq s S=>?_)
 exists bf S (fun xkI s S=>PyProof.Rows.eq_int ?_)
 refine gY rfl ?_
 exists cJ ?_
 refine wpAny_execs_nil<|ec ?_
 intro Kz
 refine aX<|Subscript_ ?_
 exists ap S (i1 ah)<|bf S (fun xjn s S=>?_)
 refine cL S (ch (mA mH)) (by decide) (by decide) (x:= .none) rfl<|aW S (fun s S=>ec ?_)
 intro Kz
 refine wpAny_If ?_
 exists isTrue_and ?_
 refine wpAny_isTrue_Compare1 ?_
 exists ap S ah ?_
 refine wpAny_Constant_none<|isnot_none_none ?_
 exists ei<|cJ ?_
 refine wpAny_execs_nil<|ec ?_
 intro Kz
 refine aX<|Attribute_any_<|aY C S (pW _) ?_
 exists aU S (lj9 ah) ?_
 refine bh C S ?_
 have SB:=S
 have Y2:=dI.on S Y.up.app.up.app.up.up.up.up
 have Y1:=Y2.y
 have iV:=Y.y.hW
 have Wu:=Fz.on (W:=W) (a:=pd) (o:=emptyDict) S ⟨mH,St.jT S (fun zz h=>mT (bc (mA (mT (mA (mT (h))))))) iV⟩
 have Ws:=Fz.on (W:=W) (a:=pa) (o:=(listOf pav pak)) S ⟨(bc mH),St.jT S.drop.drop (fun zz h=>mT (mA (mT (mA (mT (h)))))) iV⟩
 have Wt:=Fz.on (W:=W) (a:=pb) (o:=(listOf #[.ref tp] pbk)) S ⟨(b5 mH),St.jT S.drop.drop.drop (fun zz h=>mA (mT (mA (mT (h))))) iV⟩
 have WG:=Fz.on (W:=W) (a:=tp) (o:=(bK #[.str (q "s") tsa,.str (q "numeric") tsb] tsc)) S ⟨mT (b5 (List.mem_append_left _ ql)),St.RQ S.drop.drop.drop.drop ql (fun zz h=>mT (mA (mT (h)))) iV⟩
 refine uF C S Y1 (fun W1 e9 st mt t dc du s S P1 I1 T=>?_)
 have PD:=Wu.step P1.k Y1.iz P1.g
 have PA:=Ws.step P1.k Y1.iz P1.g
 have PB:=Wt.step P1.k Y1.iz P1.g
 have WF:=WG.step P1.k Y1.iz P1.g
 have S1:=S
 have P2:=P1.two SB Y2
 refine aO P1.y.Hl fun d1 d2 d3=>gU C S (pO _) I1.inst (aB ah) bA (fun s S=>aW S (fun s S=>ec ?_))
 intro Kz
 refine aX<|methodCall_KW ?_
 exists ap S ah ?_
 refine fw C S (S6 _) T.i.inst (bj (bj (dP))) ?_
 exists aU S (m4 ah) ?_
 refine bh C S<|VE C S T (fun cvv s Bm S=>aW S (fun s S=>ec ?_))
 intro Kz
 refine aX<|iJ C S (RW _) (Hg _) ?_
 exists bQ S (lj7 ah)<|bQ S (m4 ah)<|bQ S (i1 ah)<|bQ S (aB ah)<|bQ S (bR ah)<|aU S (aV ah) ?_
 refine iE C S<|TM C S (fun GO Rm xkj s S h25 SH l27=>aW S (fun s S=>?_))
 have q3:Rm∉W1:=wi P1.y.hW (fun p hp=>⟨p.2,hp⟩) SH
 have q4:GO∉W1:=fun m=>by obtain⟨o,ho⟩:=P1.y.hW _ m;exact absurd (Nat.lt_trans (SH _ ho) l27) (Nat.lt_irrefl _)
 have Qa:=cC.on (W:=W1) (x:=GO) (K:=304) S ⟨Rm,_,⟨mH,q4⟩,⟨mT mH,q3⟩,h25⟩
 have Ww:=S
 refine ec ?_
 intro Kz
 refine wpAny_Expr<|methodCall_KW ?_
 exists ap S (aB ah) ?_
 refine fw C S (ij (jd _) (kl _) ⟨aA (qG _),aA (aj (qG _))⟩) T.up.up.i.inst (bj (bj (dP))) ?_
 exists aU S ah ?_
 refine bh C S<|xiQ C S T.up.up Z Qa PB.up.up WF.up.up PA.up.up hpa fZ jA df qo vw d1 d3 ic (fun cf s fG S kk kd T2=>?_) (fun bz h3 e s dO t1 X=>?_)
 rotate_left
 ·have C:=C.turn Z t1
  refine nv C (.inr (.inl X)) fun g2 s t2 X=>aS (dN.jr C0 FG (KtsTurn.fs C0 (t1.trans t2)) X) fun h4 z1=>ay z1 fun t4 X=>?_
  clear z1
  exact kx W1 e9 [dc,du] bz h4 e s dO t4 (P2.pre fun zz h=>mT (b5 (mA (mT (mA (mT (h))))))) X.up.up
 have P3:=cg.tabs Ww P2.up.up (fun p hp n1 zz=>kk p hp n1) kd T2
 have kp:Kp W1 _ cf:=fun p hp hw=>kk p hp (fun e=>hw (by rw[show p.1=dc from e];exact d1))
 have Wk:=Qa.mono kp
 have Wv:=PD.up.up.mono kp
 refine ec ?_
 intro Kz
 refine wpAny_Try_except<|ec ?_
 intro Kz
 refine wpAny_Expr<|aY C S (xc7 _) ?_
 exists bQ S (aB ah)<|aU S ah ?_
 refine bh C S<|xiq C S T2 Wk Wv npd hx HS (fun xcF s S=>wpAny_execs_nil<|wpAny_execs_nil ?_)
 replace P3:=P3.app (aw:=xcF)
 refine ec ?_
 intro Kz
 refine wpAny_Return_some<|aY C S (R1 _) ?_
 exists bQ S (xea ah) ?_
 refine spliced_more<|aY C S (RY _) ?_
 exists aU S (lj8 ah) ?_
 refine bh C S<|aS P3.y.t2 fun nf z1=>ay z1 fun mU jw=>?_
 clear z1
 obtain⟨gt,ut⟩:=Up.ex S mU
 have S3:=S
 refine Vz C S df jw ut (fun gx xcE O4 s S H2=>?_)
 have P4:=cg.gen S3 P3 mU jw (ut _) H2
 refine dy C S<|cB P4.y.y.ex fun od al lim s4 z1=>bB z1 fun v8 hA hI H0=>?_
 clear z1
 obtain⟨gv,uv⟩:=Up.ex S v8
 have S4:=S
 refine Vx C S P4.y.y.hi.1 hA hI uv (fun ki W6 s S HR vy=>?_)
 have P5:=cg.pi S4 P4 v8 H0 (uv _) HR vy (by obtain⟨es,n,rfl,_⟩:=hA;exact⟨_,_,rfl⟩)
 replace S:=St.back FG S
 exact ret W1 _ [dc,du] gx s fG S (P5.pre fun zz h=>mT (b5 (mA (mT (mA (mT (h)))))))
end
theorem xdp(P:Params):hasDictIn (KF P) 117=true:=by kernel_rfl
section
theorem Z9{h:Heap}{g:Array GenState}{d:Drawn}{t:Nat}{os:OsState}{TA:Value}{Q:Unit→Shared→Prop}(X:(KF w.params).In h)(hx:h.get? a=some o)(hc:o.cls= .ref 117)(hq:Q () ⟨h,g,d,t,os⟩):
  wpAny M A (checkBuiltinCall "BaseException.__getattribute__" ⟨[.ref a,TA],[]⟩) Q E ⟨h,g,d,t,os⟩:=by
 refine eY (A5 w.params) fun k0 k1 k2 k3 k5 hl=>?_
 have hC:=X _ _ hl
 have hk:builtinKind "BaseException.__getattribute__"=some .slot:=by decide+kernel
 have xdQ:splitId "BaseException.__getattribute__"=some ("BaseException","__getattribute__"):=by decide+kernel
 have H8:(Value.ref 117::AT).contains (.type "BaseException")=true:=by simp
 have ha:=PySem.F.args_bexc_ga (.ref a) TA
 simp only[checkBuiltinCall,hk,xdQ]
 refine wpAny_bind ?_
 unfold isInstance
 repeat (first|(exists wpAny_loadPart_at hx ?_;rw[hc])|(exists wpAny_isSubtype_exc hC ?_;rw[H8])|wp_step)
 exact hq
theorem xhz{e de:Addr}{oe od:Obj}{vs:Array Value}{ex:Bool}(X:(KF w.params).In s.heap)(he:s.heap.get? e=some oe)(hc:oe.cls= .ref 117)(eZ:oe.dict=some de)(lL:oe.data= .fields vs)(hde:s.heap.get? de=some od)(hA:bG od al)(hl:al.lookup (q "message")=some v)(hv:handedIn v=true)(h:Q v {s with toks:=s.toks+1}):wpAny (model af w) A (getAttr (.ref e) (q "message") ex) Q E s:=by
 refine aP hA.look fun es n z1=>ay z1 fun z2 hg=>?_
 clear z1
 subst z2
 have I:InstAt s.heap e oe 117 (some (dictOf es n)):=⟨he,hc,by unfold notCls;rw[lL],by rw[eZ];exact hde⟩
 have hf:findObj (KF w.params) 117 (some (dictOf es n)) (q "message")=some (.value v):=findObj_own (xdp _) (RF _) rfl (by rw[lookIn_dict,hg,hl])
 obtain⟨hp,g,d,t,os⟩:=s
 have L0:=I.type (M:=model af w)
 have L1:=looks_find (M:=model af w) X I hf
 have L2:=looks_findIn (M:=model af w) X (xcK _)
 have L3:=looks_findIn (M:=model af w) X (xcJ _)
 have FB:=PySem.F.attrBase_Exception
 have f3:=FB.ga.bind (.ref e)
 have IT:(ex&&onTheHeap (Value.builtin "BaseException.__getattribute__"))=false:=by cases ex<;>rfl
 have oy:(Value.builtin "BaseException.__getattribute__"==Value.builtin "object.__getattribute__")=false:=by decide+kernel
 have ol:(onTheHeap (Value.ref 117)&&Value.builtin "BaseException.__getattribute__"==Value.builtin "object.__getattribute__")=false:=by rw[oy];rfl
 unfold getAttr getAttrBy
 refine wpAny_bind (wpAny_mkText (wpAny_holding (wpAny_bind (L0.at (wpAny_bind (L2.at ?_))))))
 dsimp only
 rw[ol]
 show wpAny _ _ (getAttrByItsOwn _ _ _ _ _ _) _ _ _
 unfold getAttrByItsOwn
 refine wpAny_bind (show wpAny _ _ (typeLookup (.ref 117) "__getattr__") _ _ _ from L3.at<|wpAny_bind (wpAny_attempt (wpAny_holding ?_)))
 unfold callGetattribute
 rw[IT]
 show wpAny _ _ (boundAndCalled _ _ _) _ _ _
 unfold boundAndCalled
 rw[f3]
 refine wpAny_bind (wpAny_pure<|wpAny_call (codeAny_call_builtin FB.ga.plain PySem.F.entry_bexc_ga (Z9 X he hc<|wpAny_bind (wpAny_pure (wpAny_bind (wpAny_pure (wpAny_bind (L0.at (wpAny_bind (L1.at<|wpAny_pure ?_))))))))))
 show wpAny _ _ (handedOut v) _ _ _
 rw[handedOut_of hv];exact wpAny_pure h
end
theorem xem(n:Str)(u:Option Value)(l:List (Str×Value)):∃l',(fun x=>if x=n then u else dY l x)=dY l':=by
 cases u with
 |some v=>exact⟨(n,v)::l,BL n v l⟩
 |none=>
  refine⟨l.filter (fun y=> !(y.1==n)),?_⟩
  funext x
  unfold dY
  induction l with
  |nil=>simp
  |cons y r ih=>
   obtain⟨a,b⟩:=y
   by_cases hx:x=n
   ·subst hx
    simp only[if_true] at ih ⊢
    by_cases ha:a=x
    ·subst ha;simpa using ih
    ·simp[List.filter_cons,ha,List.lookup_cons,Ne.symm ha,beq_false_of_ne (Ne.symm ha)]
     simpa using ih
   ·simp only[hx,if_false] at ih ⊢
    by_cases ha:a=n
    ·subst ha
     have:(x==a)=false:=beq_false_of_ne hx
     simp[List.filter_cons,List.lookup_cons,this]
     simpa using ih
    ·simp only[List.filter_cons,List.lookup_cons]
     simp[ha]
     simp only[List.lookup_cons]
     cases x==a with
     |true=>rfl
     |false=>simpa using ih
section
theorem U5{n:Str}{Q:Unit→Shared→Prop}(S:St ai ae L s l aa)(hv:l.lookup n=some v)(h:∀l' s',St ai ae L s' l' aa→Q () s')(hk:autoParam (aq.kind= .function) kr)(hl:autoParam ((envX name aq L a cd cl).kindOf n=some .local) kr):wpAny M A (unbindBehindTheSuite (envX name aq L a cd cl) n aI) Q E s:=by
 unfold unbindBehindTheSuite
 refine wpAny_onRaise ?_
 refine wpAny_unbindName_local (m:=dY l) hl S.F.ns hv (by show(aq.kind== .class||(aq.kind== .module&&_))=false;rw[hk];rfl) fun h' u hn hs=>?_
 obtain⟨l',e⟩:=xem n u l
 have nL:ae.get? L=none:=kts_self S.F
 refine h l' _ ⟨⟨?_,fun b o eb=>(hs.2 b fun q=>by rw[q] at eb;rw[show ae.get? L=some o from eb] at nL;cases nL).trans (S.F.keep b o eb),S.F.above⟩,fun q hq=>⟨(hs.2 q.1 (S.N q hq).2.1).trans (S.N q hq).1,(S.N q hq).2⟩,S.D,by rw[S.R]⟩
 rw[←e];exact hn
theorem xkx{n:Str}{Q:Unit→Shared→Prop}(S:St ai ae L s l aa)(hv:l.lookup n=some v)(h:∀l' s',St ai ae L s' l' aa→Q () s')(hq:autoParam ((aq.kind,aq.names.lookup n)=(.function,some .local)) kr):wpAny M A (unbindBehindTheSuite (envX name aq L a cd cl) n aI) Q E s:=U5 S hv h (hk:=t1 hq) (hl:=t2 hq)
theorem Wb{e:Addr}{bz:Str}{n:Str}{np p1 p2 p3:Pos}{Q:Flow→Shared→Prop}(C:Cx gx aH A ae aE (envX name aq L a cd cl) L dp un)(Z:Bs gx)(X:dN ai ae L s l aa e bz .none)(hg:nsIn (KF gx.gw.params) mainGlobals x=some (some (.ref 117)))(k:∀g' tk s' l' aw,KtsTurn (fA aE) ae g'→St ai g' L s' l' (aw++aa)→Q (.ret (.str bz tk)) s')(hk:autoParam (aq.kind= .function) kr)(hx:autoParam ((envX name aq L a cd cl).kindOf x=some .globalImplicit) kr)(hd:autoParam ((x==q "__debug__")=false) kr)(hn:autoParam ((envX name aq L a cd cl).kindOf n=some .local) kr)(hdn:autoParam ((n==q "__debug__")=false) kr):
  wpAny (model af gx.gw) A (noteFrame (.ref e) (envX name aq L a cd cl)) (fun zz bb=>wpAny (model af gx.gw) A (setFlight (.ref e) none) (fun zz bx=>wpAny (model af gx.gw) A (handleBy (.ref e) (envX name aq L a cd cl) [.ExceptHandler (some (.Name x np)) (some n) [.Return (some (.Attribute (.Name n p1) (q "message") p2)) p3] aI]) Q E bx) E bb) E s:=by
 refine PZ C (.inr (.inl X)) fun g1 s1 t1 X=>?_
 have C:=C.turn Z t1
 refine GS X fun s2 X=>?_
 have X':=X
 refine lu X' fun oe de vs T oT ts od tk aJ z1=>uK z1 fun S hc eZ lL hz h1 jy lT h3 hA=>?_
 clear X' z1
 have XK:=C.X.keeps S.F.keep
 refine eY (A5 gx.gw.params) fun k0 k1 k2 k3 k5 j3=>?_
 have hC:=XK _ _ j3
 refine wpAny_handleBy_cons (codeAny_handlers_test (nameX_K S.F C.X (topRead_of C.T) hg ?_ hk hx hd)) (by intro q;cases q)
 obtain⟨hp,g,d,t,os⟩:=s2
 refine wpAny_excMatches_sub_self hC (S.N _ mH).1 hc (by simp) (codeAny_handlers_suite_as<|GS X fun s3 X=>lu X fun oe de vs T oT ts od tk aJ z1=>uK z1 fun S hc eZ lL hz h1 jy lT h3 hA=>?_)
 clear X z1
 refine jo S (hk:=hk) (hl:=hn) fun s4 S=>wpAny_execs_cons<|wpAny_Return_some<|Attribute_Name_<|ul S ah ?_ (hk:=hk) (hl:=hn) (hd:=hdn)
 refine xhz (C.X.keeps S.F.keep) (S.N (e,oe) mH).1 hc eZ lL (S.N (de,od) (bc mH)).1 hA ah rfl ?_
 have S:=S.tick (tk:=s4.toks+1)
 refine wpAny_bind (wpAny_bindName (jo S (hk:=hk) (hl:=hn) fun s5 S=>U5 S ah (hk:=hk) (hl:=hn) fun l' s6 S=>?_))
 exact k g1 tk s6 l' ((e,oe)::(T,oT)::(de,od)::aJ) t1 (by simpa using S)
end
section
theorem St.at{d:Addr}{o':Obj}{cf:List (Addr×Obj)}{h':Heap}(S:St ai ae L s l aa)(u:Up d o o' aa cf)(hs:Heap.SameBut d s.heap h')(ho:h'.get? d=some o'):St ai ae L {s with heap:=h'} l cf:=by
 refine aP ((u.iK S.D).split) fun pre post z1=>bB z1 fun e1 e2 z2 z3=>?_
 clear z1
 subst e1 e2
 exact((S.perm List.perm_middle).top hs ho).perm List.perm_middle.symm
theorem Pa{keys:List (Option Expr)}{values:List Expr}(C:Cx gx aH A ae aE az L dp un)(S:St ai ae L s l aa)(kU:keys.all (·.isSome)=true)(hl:keys.length=values.length)(h0:keys≠[])(hlen:keys.length≤15)(h:∀d aL,St ai ae L aL l ((d,emptyDict)::aa)→(d==sysModules)=false→wpAny (model af gx.gw) A (evalPairs (pairTrees keys values ev aI)) (fun vs bb=>∃(l2:List (Str×Value)) (cf:List (Addr×Obj)) (g:Obj→List (Addr×Obj)) (aD:List (Str×Value)),St ai ae L bb l2 cf∧(∀o',Up d emptyDict o' cf (g o'))∧
      Carries (PySem.strKind af gx.gw) vs aD∧∀(o:Obj) (bx:Shared),o.IsDictOf (PySem.strKind af gx.gw) (merged [] aD)→St ai ae L bx l2 (g o)→Q (.ref d) bx) E aL):
  wpAny (model af gx.gw) A (eval (.Dict keys values aI) ev) Q E s:=by
 have S1:St ai ae L {s with heap:=s.heap.push emptyDict} l ((s.heap.objs.size,emptyDict)::aa):=⟨S.F.push _,S.N.push S.F _,S.nd S.lt,by rw[S.R]⟩
 refine wpAny_Dict_walk (knd:=PySem.strKind af gx.gw) kU hl h0 hlen (wpAny_mono (h _ _ S1 (S.F.notModules (modules_low C.T.nolimit))) (fun vs bb dS=>?_) fun zz zz e=>e)
 refine cB dS fun l2 cf g aD z1=>bB z1 fun S2 u hc hq=>?_
 clear dS z1
 refine iu (a:=aD) (aR hc (Heap.dictOf_iff.mpr ⟨_,(S2.N _ (u emptyDict).mem).1,#[],0,⟨rfl,rfl,rfl⟩,rfl,fun e he=>by simp at he,.nil,by simp⟩) (fun h' hd hs=>aS (Heap.dictOf_iff.mp hd) fun o' z1=>ay z1 fun gB fC=>?_))
 clear z1
 have S3:=S2.at (u o') hs gB
 refine hq o' _ fC ⟨S3.F,S3.N,S3.D,?_⟩
 have e:=S2.R
 rw[e]
end
section
variable {aJ:List (Addr×Obj)}
theorem Fz.new{x:Addr}(S:St ai ae L s l ((x,o)::aJ))(hs:∀p∈aa,p∈aJ)(hW:∀a∈W,∃o,(a,o)∈aa):Fz W ((x,o)::aJ) x o:=⟨mH,S.jT hs hW⟩
theorem cC.new{x dx K:Addr}{od:Obj}(S:St ai ae L s l ((x,instObj K dx)::(dx,od)::aJ))(hA:bG od al)(hs:∀p∈aa,p∈aJ)(hW:∀a∈W,∃o,(a,o)∈aa):cC W ((x,instObj K dx)::(dx,od)::aJ) x K al:=
 ⟨dx,od,⟨mH,S.jT (fun p h=>mT (hs p h)) hW⟩,⟨mT mH,S.drop.jT hs hW⟩,hA⟩
theorem cS.new{x dx it:Addr}{od:Obj}{a:Str}{ta tk:Tok}{n:Nat}(S:St ai ae L s l ((x,instObj 487 dx)::(dx,od)::(it,listOf #[.str a ta] n)::aJ))(hA:bG od (cN (q "character") tk (.ref it) .none))(hs:∀p∈aa,p∈aJ)(hW:∀a∈W,∃o,(a,o)∈aa):
  cS W ((x,instObj 487 dx)::(dx,od)::(it,listOf #[.str a ta] n)::aJ) x a:=⟨tk,it,ta,n,cC.new S hA (fun p h=>mT (hs p h)) hW,⟨mT (mT mH),S.drop.drop.jT hs hW⟩⟩
end
theorem jN.mem{af w W aa ag v}(h:jN af w W aa v)(k:∀p∈aa,p∈ag):jN af w W ag v:=by
 refine kG h fun tk it t1 k1 d o n t2 m t3 k2 z1=>pk z1 fun a b c e f g i=>?_
 clear h z1
 exact PX (a:=tk) (b:=it) (c:=t1) (d:=k1) (e:=d) (f:=o) (g:=n) (h:=t2) (i:=m) (j:=t3) (k:=k2) (pq (a.mono (.fq k)) (b.mono (.fq k)) (c.mono (.fq k)) e f (g.mono (.fq k)) (i.mono (.fq k)))
theorem jN.up{af w W aa v}{p:Addr×Obj}(h:jN af w W aa v):jN af w W (p::aa) v:=h.mem fun zz m=> .tail _ m
theorem jN.app{af w W aa aw v}(h:jN af w W aa v):jN af w W (aw++aa) v:=h.mem fun zz m=>mA m
noncomputable def kN(cs:List (Str×CA))(us:List (Str×List Str))(bit:Bool)(a:Str)(ms:List Str):Option Str:=if bit=true then ms.findSome? (iB cs us a) else ms.findSome? (gO cs us a)
noncomputable def kM(cs:List (Str×CA))(bit:Bool)(a:Str)(ms:List Str):List (Str×CA):=bT cs a (if bit=true then ⟨true,[]⟩ else ⟨false,ms⟩)
noncomputable def lp(us:List (Str×List Str))(bit:Bool)(a:Str)(ms:List Str):List (Str×List Str):=if bit=true then bT us a ms else us
section
theorem xiC{i di gl:Addr}{F:List Addr}{b:Bool}{cs:List (Str×CA)}{a:Str}{ta:Tok}{jc:Addr}{jv:Array Value}{jk:Nat}{bit:Bool}(C:Cx gx aH A ae [] az L (dp+11) (un+33))(S:St ai ae L s l aa)(Z:Bs gx)(Y:dI af gx.gw W aa i di gl F b cs us)(qd:(jc,listOf jv jk)∈aa)(vG:StrsAre jv.toList ms)(fZ:ms.length≤100)(jA:∀m∈ms,m.length≤1000)(df:a.length≤1000)(hx:(a==q "ANY")=false)(qg:ms.any (·==q "VIRTUAL")=false)(qo:∀m∈ms,(m==q "ANY")=false)(vw:∀m∈ms,ig cs m=true→DK cs us m)(HS:bit=false→DK (bT cs a ⟨false,ms⟩) us a)(ic:Small (kM cs bit a ms) (lp us bit a ms))(U9:∀W' ag F' tk s',kN cs us bit a ms=none→St ai ae L s' l ag→cg af gx.gw W aa F i di gl W' ag F' false (kM cs bit a ms) (lp us bit a ms)→R (.ok (.ret (.str (q "") tk))) s')(Vc:∀W' ag F' bz tk s',kN cs us bit a ms=some bz→St ai ae L s' l ag→cg af gx.gw W aa F i di gl W' ag F' b cs us→R (.ok (.ret (.str bz tk))) s'):
  codeAny (model af gx.gw) A (.call (.ref 1502) ⟨[.ref i,.str a ta,.ref jc,.bool bit],[]⟩) R s:=by
 have C0:=C
 refine xbU C S (fun g1 L1 s FG C S=>bo ?_)
 intro Kz Ez
 have iV:=Y.y.hW
 have mO:=bX (cG vG)
 have n0:jv.size≤sizeLine:=by rw[sizeLine_eq];exact nc fZ mO
 refine cB Y.y.ex fun od0 al0 xjN s40 z1=>bB z1 fun SW R3 R7 xjI=>?_
 clear z1
 refine kG R7 fun a1 a2 a3 a4 a5 a6 t1 t2 t3 t4 kn z1=>?_
 clear R7
 subst z1
 refine ec ?_
 intro Kz
 refine aX<|iJ C S (mF _) (kK _) ?_
 exists be S (fun bp s S=>?_)
 refine spliced_more<|fS C S (nP _) nD ?_
 exists aU S (am ah) ?_
 refine oW S qd n0 (fun x2 Rj s S dE=>spliced_none<|iE C S<|oK C S (fun x3 d4 jH s S h5 l6 l7=>?_))
 have Qf:iA W _ x3 ms:=⟨bp,x2,jv,_,cC.new S h5 (fun zz h=>mT h) iV,((Fz.new S.drop.drop (fun zz h=>h) iV).up).up,vG⟩
 refine aW S (fun s S=>ec ?_)
 intro Kz
 refine wpAny_Try_except<|ec ?_
 intro Kz
 refine wpAny_If<|isTrue_plain ?_
 exists ap S (am ah)<|wpAny_truthy_bool ?_
 cases bit with
 |true=>
  exists er ?_
  refine ec ?_
  intro Kz
  refine wpAny_Expr_any<|aY C S (xc2 _) ?_
  exists bQ S (bR ah) ?_
  refine spliced_more ?_
  exists List_ ?_
  refine spliced_more ?_
  exists Tuple_ ?_
  refine spliced_more ?_
  exists wpAny_Constant_none ?_
  refine spliced_more<|aY C S (vm _) ?_
  exists aU S (aV ah) ?_
  refine bh C S<|Ay C S (fun xq8 dq8 xku iq8 xkP nq8 s S hq8 lq8=>?_)
  have WJ:=cS.new (a:=a) S hq8 (fun zz h=>(b5 h)) iV
  refine spliced_none<|ea S aG (fun x9 s S BK=>spliced_more ?_)
  exists Tuple_<|be S (fun VQ s S=>aU S ah ?_)
  refine ea S aG (fun ls s S xeg=>cF S aG (fun x12 s S xjW=>spliced_more<|a9 C S (bR ah) (HC _) ⟨_,_,(mT (mT (dK Y.y.hi.1))),(mT (mT (dK SW))),R3⟩ (SM ah) bA (fun s S=>dy C S<|xis C S Z Y.up.up.up.up.up.up.up.up.up mH (bc mH) (mT mH) WJ.up.up.up Qf.up.up.up.up.up.up fZ jA df hx (by simpa [kM,lp] using ic) (fun W1 e9 F1 gx s fG S P1=>?_) (fun W1 e9 F1 bz h3 e s dO t1 P1 X=>?_))))
  rotate_left
  ·have C:=C.turn Z t1
   refine Wb C Z X (HH _) (fun g9 gH s l9 Rz t9 S=>aS (St.jr C0 FG (KtsTurn.fs C0 (t1.trans t9)) S) fun h4 z1=>aO z1 fun z2 ho S=>?_)
   clear z1
   rw[ho rfl] at S
   exact Vc W1 _ F1 bz gH s (by unfold kN;simpa using dO) S ((P1.pre fun zz h=>mT (mT (dK (h)))).app)
  refine wpAny_execs_nil<|wpAny_execs_nil<|wpAny_execs_nil<|ec ?_
  intro Kz
  refine wpAny_Return_some ?_
  exists bE S (fun AC s S=>?_)
  replace S:=St.back FG S
  exact U9 W1 _ F1 AC s (by unfold kN;simpa using fG) S (by simpa [kM,lp] using P1.pre fun zz h=>mT (mT (dK (h))))
 |false=>
  exists cJ ?_
  refine ec ?_
  intro Kz
  refine aX<|iJ C S (mF _) (kK _) ?_
  exists be S (fun ml s S=>?_)
  refine spliced_more ?_
  exists List_<|cz S (fun gH s S=>?_)
  refine dm S aG (fun iq s S SR=>spliced_more ?_)
  exists Pa C S (by kernel_rfl) (by kernel_rfl) (by simp) (by decide) (fun pG s S xev=>?_)
  refine pairTrees_cons_walk ?_
  exists bE S (fun GI s S=>?_)
  refine aY C S (vm _) ?_
  exists cz S (fun AC s S=>?_)
  refine bh C S<|Ay C S (fun We xjD xkr xjK xkM xj6 s S Su xjT=>?_)
  have xjA:=cS.new (a:=q "s") S Su (fun zz h=>(eg h)) iV
  refine pairTrees_nil_walk<|gJ (d:=[(q "names",.ref We)]) (bW S (fun zz=>(Up.tail (Up.tail (Up.tail Up.head)))) ⟨strKind_is _ _ _ _,rfl,trivial⟩ (fun xka s xdo S=>spliced_none<|iE C S<|xeM C S (fun GN d16 xkd s S h17 l18 l19=>cB (cS.new (a:=q "s") S.drop.drop Su (fun zz h=>mT (ch (h))) iV) fun VK sm VL Vr z1=>ay z1 fun WD WC=>?_)))
  clear z1
  have WE:jN af gx.gw W _ GN:=⟨ml,iq,gH,_,pG,_,We,VK,sm,VL,Vr,cC.new S h17 (fun zz h=>mT (dK (h))) iV,(Fz.new S.drop.drop.drop.drop.drop.drop (fun zz h=>mT (bc (h))) iV).up.up.up.up.up.up,(Fz.new S.drop.drop.drop.drop.drop (fun zz h=>mT (b5 (h))) iV).up.up.up.up.up,xdo,xev,WD.up.up,WC.up.up⟩
  refine aW S (fun s S=>ec ?_)
  intro Kz
  refine wpAny_Expr_any<|aY C S (xc1 _) ?_
  exists bQ S (i1 ah) ?_
  refine spliced_more ?_
  exists List_ ?_
  refine spliced_more ?_
  exists Tuple_ ?_
  refine spliced_more ?_
  exists wpAny_Constant_none ?_
  refine spliced_more<|aY C S (vm _) ?_
  exists aU S (bR ah) ?_
  refine bh C S<|Ay C S (fun xkY xjE xks xjL xkN xj7 s S xdN xjU=>?_)
  have WI:=cS.new (a:=a) S xdN (fun zz h=>(mT (mT (mT (dK h))))) iV
  refine spliced_none<|ea S aG (fun x21 s S xej=>spliced_more ?_)
  exists Tuple_<|be S (fun xjn s S=>aU S ah ?_)
  refine ea S aG (fun GO s S xek=>spliced_more ?_)
  exists Tuple_<|be S (fun xjp s S=>aU S (am ah) ?_)
  refine ea S aG (fun x25 s S xj2=>cF S aG (fun GP s S xel=>spliced_more<|a9 C S (i1 ah) (HC _) ⟨_,_,(mT (mT (mT (mT (mT (mT (mT (mT (mT (mT (dK Y.y.hi.1))))))))))),(mT (mT (mT (mT (mT (mT (mT (mT (mT (mT (dK SW))))))))))),R3⟩ (SM ah) bA (fun s S=>dy C S<|xir C S Z Y.up.up.up.up.up.up.up.up.up.up.up.up.up.up.up.up.up mH (b5 mH) (bc mH) (mT mH) WI.up.up.up.up WE.up.up.up.up.up.up.up Qf.up.up.up.up.up.up.up.up.up.up.up.up.up.up fZ jA df hx qg qo vw (HS rfl) (by simpa [kM,lp] using ic) (fun W1 e9 F1 gx s fG S P1=>?_) (fun W1 e9 F1 bz h3 e s dO t1 P1 X=>?_))))
  rotate_left
  ·have C:=C.turn Z t1
   refine Wb C Z X (HH _) (fun g9 gH s l9 Rz t9 S=>aS (St.jr C0 FG (KtsTurn.fs C0 (t1.trans t9)) S) fun h4 z1=>aO z1 fun z2 ho S=>?_)
   clear z1
   rw[ho rfl] at S
   exact Vc W1 _ F1 bz gH s (by unfold kN;simpa using dO) S ((P1.pre fun zz h=>mT (mT (mT (mT (mT (mT (mT (mT (mT (mT (dK (h)))))))))))).app)
  refine wpAny_execs_nil<|wpAny_execs_nil<|wpAny_execs_nil<|ec ?_
  intro Kz
  refine wpAny_Return_some ?_
  exists bE S (fun xjq s S=>?_)
  replace S:=St.back FG S
  exact U9 W1 _ F1 xjq s (by unfold kN;simpa using fG) S (by simpa [kM,lp] using P1.pre fun zz h=>mT (mT (mT (mT (mT (mT (mT (mT (mT (mT (dK (h))))))))))))
end
section
theorem xhN{D:Addr}{n:Nat}{pl:Sem Bool}(S:St ai ae L s l aa)(hm:(D,listOf ba n)∈aa)(h:wpAny (model af w) A (call (.builtin "list.pop") [.ref D]) Q E s):
  wpAny (model af w) A (getMethod (.ref D) (q "pop") pl) (fun fx bb=>wpAny (model af w) A (callWith aI fx.1 fx.2 (backTo aI (starEach [] ev)) (backToKw aI (keywordEach [] ev))) Q E bb) E s:=
 listMethod_K S.N hm PySem.F.slot_list_pop PySem.F.type_list_pop (O9 (kws_nil h))
theorem xhM{D:Addr}{us:List Value}{ns:List Int}{n:Nat}(S:St ai ae L s l aa)(u:Up D (listOf us.toArray n) (listOf us.dropLast.toArray (n+1)) aa ag)(hi:IntsAre us ns)(eD:0<us.length)(hz:us.length≤sizeLine)(h:∀k t s',St ai ae L s' l ag→IntsAre us.dropLast ns.dropLast→Q (.int k t) s'):wpAny (model af w) A (call (.builtin "list.pop") [.ref D]) Q E s:=
 kpa_pop S.F S.N (u.iK S.D) hi eD hz fun h' t F' N' e7=>h _ t _ ⟨F',N',u.keys▸S.D,by rw[S.R]⟩ e7
theorem Pe{a b:Int}{t u:Tok}(S:St ai ae L s l aa)(hb:b≠0)(h:∀t s',St ai ae L s' l aa→Q (.int (a.fmod b) t) s'):wpAny (model af w) A (binaryOp .Mod (.int a t) (.int b u)) Q E s:=PyProof.Rows.mod_int hb (h _ _ S.tick)
theorem UV{a b:Int}{t u:Tok}(S:St ai ae L s l aa)(hb:b≠0)(hp:Builtin.divisionGoesByPylong a b=false)(h:∀t s',St ai ae L s' l aa→Q (.int (a.fdiv b) t) s'):wpAny (model af w) A (binaryOp .FloorDiv (.int a t) (.int b u)) Q E s:=PyProof.Rows.floordiv_int hb (h _ _ S.tick) (.inl hp)
theorem xhJ{a b:Int}{t u:Tok}(S:St ai ae L s l aa)(hb:Builtin.Int.intBits a≤64)(h:∀t s',St ai ae L s' l aa→Q (.int (a*b) t) s'):wpAny (model af w) A (binaryOp .Mult (.int a t) (.int b u)) Q E s:=PyProof.Rows.mul_int (h _ _ S.tick) (.of_left hb)
theorem xhy{b:Addr}{vs:Array Value}{n m:Nat}(hu:A.units<cLine)(S:St ai ae L s l aa)(ha:(a,listOf vs n)∈aa)(hb:(b,listOf #[] m)∈aa)(h:Q (.bool (vs.size==0)) s):wpAny (model af w) A (compareOp .Eq (.ref a) (.ref b)) Q E s:=by
 by_cases e:vs.size=0
 ·refine PySem.SeqAt.eq_listAt (e:=fun zz=>true) (S.lst ha) (S.lst hb) (by simpa using e) hu (fun j h1 h2=>absurd h1 (by exact OO e)) ?_
  have:(List.range vs.size).all (fun zz=>true)=(vs.size==0):=by rw[e];rfl
  rw[this];exact h
 ·refine PySem.SeqAt.eq_list_lengthsAt (S.lst ha) (S.lst hb) (by simpa using e) hu ?_
  have:(vs.size==0)=false:=by simpa using e
  rw[this] at h;exact h
end
section
theorem xhL{b:Addr}{vs:Array Value}{n m:Nat}(hu:A.units<cLine)(S:St ai ae L s l aa)(ha:(a,listOf vs n)∈aa)(hb:(b,listOf #[] m)∈aa)(h:Q (.bool (!(vs.size==0))) s):wpAny (model af w) A (compareOp .NotEq (.ref a) (.ref b)) Q E s:=by
 by_cases e:vs.size=0
 ·have:(List.range vs.size).all (fun zz=>true)=(vs.size==0):=by rw[e];rfl
  rw[←this] at h
  exact PySem.SeqAt.RcNeAt.lists (e:=fun zz=>true) (S.lst ha) (S.lst hb) (by simpa using e) hu (fun j h1 h2=>absurd h1 (by exact OO e)) af w E Q h
 ·have:(vs.size==0)=false:=by simpa using e
  rw[this] at h
  exact PySem.SeqAt.RcNeAt.lists_lengths (S.lst ha) (S.lst hb) (by simpa using e) hu af w E Q h
theorem RC{α:Type}(p:α→Bool)(l:List α):((l.filter p).length==0)= !(l.any p):=by
 induction l with
 |nil=>rfl
 |cons a r ih=>cases h:p a<;>simp_all
theorem RD{α:Type}{p:α→Bool}{l:List α}{i:Nat}{a:α}(h:l[i]?=some a):(l.take (i+1)).filter p=(l.take i).filter p++(if p a=true then [a] else []):=by
 rw[take_snoc h,List.filter_append]
 by_cases e:p a=true<;>simp[e]
end
section
theorem xhS{value:Expr}{lower upper:Option Expr}{sp:Pos}(h:wpAny (model af w) A (eval value ev) (fun o aL=>wpAny (model af w) A (evalPart lower ev) (fun vl bb=>wpAny (model af w) A (evalPart upper ev) (fun vu bx=>
      ∃(a:Addr) (ba:Array Value) (aa:List (Addr×Obj)) (l:List (Str×Value)) (lo hi:Option Int) (ai:Shared) (ae:Heap) (L:Addr),o= .ref a∧St ai ae L bx l aa∧bx.heap.IsList a ba∧ba.size≤sizeLine∧IsPart vl lo∧IsPart vu hi∧
      ∀x s',St ai ae L s' l ((x,listOf (slicePick ba lo hi none) 0)::aa)→Q (.ref x) s') E bb) E aL) E s)(ht:autoParam (∀o r,letTemporaryGo value o r=pure ()) ir):
  wpAny (model af w) A (eval (.Subscript value (.Slice lower upper none sp) aI) ev) Q E s:=by
 refine wpAny_Subscript_list_slice (wpAny_mono h (fun o aL dD=>wpAny_mono dD (fun vl bb dS=>wpAny_mono dS (fun vu bx cP=>?_) fun zz zz e=>e) fun zz zz e=>e) fun zz zz e=>e) ht
 refine lu cP fun a ba aa l lo hi ai ae L z1=>pk z1 fun z2 S hm hz p1 p2 k=>?_
 clear cP z1
 subst z2
 refine gJ (a:=a) (b:=ba) (c:=lo) (d:=hi) (nu rfl hm hz p1 p2 ?_)
 have S3:St ai ae L {bx with heap:=bx.heap.push {cls:= .type "slice",data:= .fields #[vl,vu,.none]}} l aa:=⟨S.F.push _,S.N.grown fun zz zz e=>Heap.get?_push_of_some _ e,S.D,by rw[S.R]⟩
 have S4:St ai ae L {bx with heap:=(bx.heap.push {cls:= .type "slice",data:= .fields #[vl,vu,.none]}).push {cls:= .type "list",data:= .seq (slicePick ba lo hi none)}} l
   (((bx.heap.push {cls:= .type "slice",data:= .fields #[vl,vu,.none]}).objs.size,listOf (slicePick ba lo hi none) 0)::aa):=
  ⟨S3.F.push _,S3.N.push S3.F _,S3.nd S3.lt,by rw[S.R]⟩
 have:=k _ _ S4
 rw[Heap.size_push] at this
 exact this
theorem xhP{D:Addr}{n:Nat}{pl:Sem Bool}(S:St ai ae L s l aa)(hm:(D,listOf ba n)∈aa)(h:wpAny (model af w) A (call (.builtin "list.reverse") [.ref D]) Q E s):
  wpAny (model af w) A (getMethod (.ref D) (q "reverse") pl) (fun fx bb=>wpAny (model af w) A (callWith aI fx.1 fx.2 (backTo aI (starEach [] ev)) (backToKw aI (keywordEach [] ev))) Q E bb) E s:=
 listMethod_K S.N hm PySem.F.slot_list_reverse PySem.F.type_list_reverse (O9 (kws_nil h))
theorem xhO{D:Addr}{n:Nat}(S:St ai ae L s l aa)(u:Up D (listOf ba n) (listOf ba.reverse n) aa ag)(hz:ba.size≤sizeLine)(h:∀s',St ai ae L s' l ag→Q .none s'):wpAny (model af w) A (call (.builtin "list.reverse") [.ref D]) Q E s:=by
 have U:=u.iK S.D
 refine aP U.split fun pre post z1=>bB z1 fun e1 e2 a b=>?_
 clear z1
 have z:=S.N (D,listOf ba n) (by rw[e1];exact List.mem_append.mpr (.inr (.head _)))
 refine call_meets PySem.F.slot_list_reverse ⟨_,z.1,rfl⟩ PySem.F.entry_list_reverse (PySem.F.args_list_reverse_1 _) (PySem.AutoListH.list_reverse_list_0 D ba n hz) ⟨z.1,?_⟩
 have N':News ae L (s.heap.update D (Obj.mapSeq fun x=>x.reverse)) ag:=by
  rw[e2]
  have N0:News ae L s.heap (pre++(D,listOf ba n)::post):=e1▸S.N
  refine news_set N0 a b (Heap.SameBut.update ..) ?_
  have q9:=PySem.IsL.update (N0 (D,listOf ba n) (List.mem_append.mpr (.inr (.head _)))).1 (fun x=>x.reverse)
  rw[if_pos (by simp)] at q9
  exact q9
 exact h _ ⟨S.F.change (Heap.SameBut.update ..) z.2.1 z.2.2,N',u.keys▸S.D,by rw[S.R]⟩
end
section
theorem Pf{b:Addr}{x y:Int}{t u:Tok}{n m:Nat}(hu:A.units<cLine)(S:St ai ae L s l aa)(ha:(a,listOf #[.int x t] n)∈aa)(hb:(b,listOf #[.int y u] m)∈aa)(h:Q (.bool (!(x==y))) s):wpAny (model af w) A (compareOp .NotEq (.ref a) (.ref b)) Q E s:=by
 have e:(List.range (#[Value.int x t]:Array Value).size).all (fun zz=>x==y)=(x==y):=by show((x==y)&&true)=_;simp
 rw[←e] at h
 refine PySem.SeqAt.RcNeAt.lists (e:=fun zz=>x==y) (S.lst ha) (S.lst hb) rfl hu (fun j h1 h2=>?_) af w E Q h
 have hj:j=0:=by simp at h1;exact h1
 subst hj
 exact PySem.SeqAt.EqAt.int_int x t y u
noncomputable def vd(xs ys:List Str)(j:Nat):Bool:=xs[j]?==ys[j]?
theorem xcB{xs ys:List Str}(h:xs.length=ys.length):(List.range xs.length).all (vd xs ys)=(xs==ys):=by
 rw[Bool.eq_iff_iff,List.all_eq_true,beq_iff_eq]
 constructor
 ·intro hh
  apply List.ext_getElem?
  intro i
  rcases Nat.lt_or_ge i xs.length with hi|hi
  ·have:=hh i (List.mem_range.mpr hi)
   unfold vd at this
   exact eq_of_beq this
  ·rw[List.getElem?_eq_none hi,List.getElem?_eq_none (by exact xeZ h hi)]
 ·rintro rfl i _
  unfold vd;simp
theorem U2{b:Addr}{vs ws:Array Value}{xs ys:List Str}{n m:Nat}(hu:A.units<cLine)(S:St ai ae L s l aa)(ha:(a,listOf vs n)∈aa)(hb:(b,listOf ws m)∈aa)(hx:StrsAre vs.toList xs)(hy:StrsAre ws.toList ys)(h:Q (.bool (!(xs==ys))) s):wpAny (model af w) A (compareOp .NotEq (.ref a) (.ref b)) Q E s:=by
 have l1:=cG hx
 have l2:=cG hy
 rw[Array.length_toList] at l1 l2
 by_cases e:vs.size=ws.size
 ·rw[←xcB (by exact xe1 l1 l2 e),←l1] at h
  refine PySem.SeqAt.RcNeAt.lists (e:=vd xs ys) (S.lst ha) (S.lst hb) e hu (fun j h1 h2=>?_) af w E Q h
  refine aP (eW hx (i:=j) (v:=vs[j]) (by simp[h1])) fun x t z1=>ay z1 fun e1 g1=>?_
  clear z1
  refine aP (eW hy (i:=j) (v:=ws[j]) (by simp[h2])) fun y u z1=>ay z1 fun e2 g2=>?_
  clear z1
  rw[e1,e2]
  have:=(eqGives_str x y t u).at A.in1 s
  unfold vd
  rw[g1,g2]
  simpa using this
 ·have:(xs==ys)=false:=by
   rw[beq_eq_false_iff_ne];rintro rfl;exact xe0 l1 e l2
  rw[this] at h
  exact PySem.SeqAt.RcNeAt.lists_lengths (S.lst ha) (S.lst hb) (by simpa using e) hu af w E Q h
end
section
theorem xhD{t u:Tok}{k:Int}{c:Nat}{value slice:Expr}(S:St ai ae L s l aa)(hr:(decide (k< -(2^63:Int))||decide (k≥2^63))=false)(hc:(seqIndex? k x.length).bind (x.cps[·]?)=some c)(h:∀t s',St ai ae L s' l aa→Q (.str ⟨#[c]⟩ t) s')(hs:autoParam (subscripted slice false (.str x t) (.int k u)=operate [.int k u,.str x t] (getItem (.str x t) (.int k u))) wr):
  wpAny (model af w) A (subscriptTail value slice (.str x t) (.int k u)) Q E s:=
 PyProof.Rows.tail_any (typeIs_str s x t) PySem.F.slot_str_getitem.lookup (getItem_str hr hc (h _ _ S.tick)) hs
end
section
theorem xhU{PP:Option Value}{c:Addr}{g:Obj→List (Addr×Obj)}{Q:Unit→Shared→Prop}(S:St ai ae L s l aa)(hc:cl.lookup x=some c)(u:∀o',Up c o o' aa (g o'))(hd:o.data= .cell PP)(h:∀o' s',o'.data= .cell (some v)→St ai ae L s' l (g o')→Q () s')(hk:autoParam (aq.kind= .function) kr)(hl:autoParam ((envX name aq L a cd cl).kindOf x=some .cell) kr):wpAny M A (storeName (envX name aq L a cd cl) x v) Q E s:=by
 have z:=S.N (c,o) (u o).mem
 refine wpAny_storeName_cell hk hl hc ⟨o,z.1,hd⟩ fun h' hv hs=>aS hv fun o' z1=>ay z1 fun gB fC=>?_
 clear hv z1
 have U:=(u o').iK S.D
 refine aP U.split fun pre post z1=>bB z1 fun e1 e2 h1 h2=>?_
 clear z1
 have N0:News ae L s.heap (pre++(c,o)::post):=e1▸S.N
 exact h o' _ fC ⟨S.F.change hs z.2.1 z.2.2,e2▸N0.setAt h1 h2 hs gB,(u o').keys▸S.D,by rw[S.R]⟩
theorem Ph{PP:Option Value}{c:Addr}{g:Obj→List (Addr×Obj)}{Q:Unit→Shared→Prop}(S:St ai ae L s l aa)(hc:cl.lookup x=some c)(u:∀o',Up c o o' aa (g o'))(hd:o.data= .cell PP)(h:∀o' s',o'.data= .cell (some v)→St ai ae L s' l (g o')→Q () s')(hq:autoParam ((aq.kind,aq.names.lookup x)=(.function,some .cell)) kr):wpAny M A (storeName (envX name aq L a cd cl) x v) Q E s:=xhU S hc u hd h (hk:=t1 hq) (hl:=t2 hq)
end
def iN(aa:List (Addr×Obj))(_:Str)(ms:List Str)(v:Value):Prop:=∃a vs n,v= .ref a∧(a,listOf vs n)∈aa∧StrsAre vs.toList ms
structure Wd(af:Program)(w:World)(aa:List (Addr×Obj))(wc ov uv:Addr)(ar au:List (Str×List Str)):Prop where
 d:Dc af w aa wc (fun _ a v=>v= .ref a) [(q "over",ov),(q "unions",uv)]
 o:Dc af w aa ov (iN aa) ar
 u:Dc af w aa uv (iN aa) au
theorem iN.mem{aa ag x ms v}(h:iN aa x ms v)(k:∀p∈aa,p∈ag):iN ag x ms v:=by
 obtain⟨a,vs,n,e,m,s⟩:=h
 exact⟨a,vs,n,e,k _ m,s⟩
theorem Wd.mem{af w aa ag wc ov uv ar au}(h:Wd af w aa wc ov uv ar au)(k:∀p∈aa,p∈ag):Wd af w ag wc ov uv ar au:=
 ⟨h.d.mem k,h.o.mono (fun zz zz zz z=>z.mem k) fun zz m=>k _ m,h.u.mono (fun zz zz zz z=>z.mem k) fun zz m=>k _ m⟩
theorem Wd.up{af w aa wc ov uv ar au}{p:Addr×Obj}(h:Wd af w aa wc ov uv ar au):Wd af w (p::aa) wc ov uv ar au:=h.mem fun zz m=> .tail _ m
theorem Wd.app{af w aa aw wc ov uv ar au}(h:Wd af w aa wc ov uv ar au):Wd af w (aw++aa) wc ov uv ar au:=h.mem fun zz m=>mA m
theorem AJ{ov uv:Addr}:aM ([(q "over",ov),(q "unions",uv)]:List (Str×Addr)) (q "over")=some ov:=by kernel_rfl
theorem AK{ov uv:Addr}:aM ([(q "over",ov),(q "unions",uv)]:List (Str×Addr)) (q "unions")=some uv:=by kernel_rfl
noncomputable abbrev Jc:List Str:=[q "integer",q "numeric",q "character",q "vector"]
noncomputable def m3(ar au:List (Str×List Str))(x:Str):Bool:=(aM ar x).isSome||(aM au x).isSome||Jc.any (·==x)
section
theorem VB{pc:Addr}{us:List Value}{ns:List Int}{n:Nat}{many:Int}{tm:Tok}{g:Obj→List (Addr×Obj)}(C:Cx gx aH A ae aE az L (dp+1) (un+3))(S:St ai ae L s l aa)(u:∀o',Up pc (listOf us.toArray n) o' aa (g o'))(hi:IntsAre us ns)(hz:us.length≤10000)(hm:0<many)(ret:∀eX lZ n' k t s',St ai ae L s' l (g (listOf eX.toArray n'))→IntsAre eX lZ→eX.length≤us.length→0≤k→k<many→R (.ok (.ret (.int k t))) s'):
  codeAny (model af gx.gw) A (.call (.ref 1467) ⟨[.ref pc,.int many tm],[]⟩) R s:=by
 refine xbP C S (fun g1 L1 s C S=>bo ?_)
 intro Kz Ez
 refine ec ?_
 intro Kz
 refine br ?_
 exists ap S (am ah)<|List_ ?_
 refine cF S aG (fun x1 s S eA=>?_)
 refine xhy (by have:=C.hu;exact xe4 this) S (mT (u (listOf us.toArray n)).mem) mH ?_
 replace S:=St.drop S
 exists bV (fun c0=>?_) (fun c0=>?_)
 ·refine ec ?_
  intro Kz
  refine wpAny_Return_some ?_
  exists bf S (fun bO s S=>?_)
  refine aT S (fun S=>?_)
  have S:=(u (listOf us.toArray n)).same▸S
  exact ret us ns n 0 bO s S hi (Nat.le_refl _) (Int.le_refl _) hm
 ·refine wpAny_execs_nil<|ec ?_
  intro Kz
  refine wpAny_Return_some ?_
  exists wpAny_BinOp ?_
  refine methodCall_KW ?_
  exists ap S (am ah) ?_
  refine xhN S (u (listOf us.toArray n)).mem ?_
  have eD:0<us.length:=by simp at c0;exact List.length_pos_iff.mpr c0
  refine xhM S (u _) hi eD (by rw[sizeLine_eq];exact xe3 hz) (fun k t s S kW=>?_)
  exists ap S ah ?_
  refine Pe S (by exact xe2 hm) (fun t2 s S=>aT S (fun S=>?_))
  exact ret _ _ _ _ t2 s S kW (by simp) (Int.fmod_nonneg_of_pos _ hm) (Int.fmod_lt_of_pos _ hm)
theorem VC{wc ov uv:Addr}{ar au:List (Str×List Str)}{tx:Tok}(C:Cx gx aH A ae aE az L (dp+1) (un+3))(S:St ai ae L s l aa)(D:Wd af gx.gw aa wc ov uv ar au)(ret:∀s',St ai ae L s' l aa→R (.ok (.ret (.bool (m3 ar au x)))) s'):
  codeAny (model af gx.gw) A (.call (.ref 1488) ⟨[.ref wc,.str x tx],[]⟩) R s:=by
 refine xbS C S (fun g1 L1 s C S=>bo ?_)
 intro Kz Ez
 unfold m3 at ret
 refine ec ?_
 intro Kz
 refine wpAny_Return_some<|BoolOp_or<|wpAny_Compare1 ?_
 exists ap S ah ?_
 refine Subscript_ ?_
 exists ap S (am ah)<|bE S (fun bp s S=>?_)
 refine i6 S D.d AJ (fun v s hp S=>?_)
 subst hp
 refine nj S D.o (fun s S=>?_)
 exists bV (fun c0=>?_) (fun c0=>?_)
 ·refine aT S (fun S=>?_)
  rw[c0,Bool.true_or,Bool.true_or] at ret;rw[c0];exact ret s S
 refine BoolOp_or<|wpAny_Compare1 ?_
 exists ap S ah ?_
 refine Subscript_ ?_
 exists ap S (am ah)<|bE S (fun bO s S=>?_)
 refine i6 S D.d AK (fun v s hp S=>?_)
 subst hp
 refine nj S D.u (fun s S=>?_)
 exists bV (fun c1=>?_) (fun c1=>?_)
 ·refine aT S (fun S=>?_)
  rw[c0,c1,Bool.false_or,Bool.true_or] at ret;rw[c1];exact ret s S
 refine BoolOp_one<|wpAny_Compare1 ?_
 exists ap S ah<|List_<|be S (fun cu s S=>be S (fun fe s S=>be S (fun ej s S=>cz S (fun ed s S=>?_))))
 refine dm S aG (fun x7 s S lU=>?_)
 exists in_list_strs (St.lst S mH) (.cons _ _ (.cons _ _ (.cons _ _ (.cons _ _ .nil)))) ?_
 replace S:=St.drop S
 refine aT S (fun S=>?_)
 rw[c0,c1,Bool.false_or,Bool.false_or] at ret;exact ret s S
end
noncomputable def hH:List (Str×List Str):=[(q "integer",[q "numeric"]),(q "numeric",[q "vector"]),(q "character",[q "vector"])]
noncomputable def gN(ar:List (Str×List Str))(one:Str):List Str:=(aM ar one).getD ((aM hH one).getD [])
noncomputable def gL(one:Str)(f:List Str)(u:Str×List Str):List Str:=if u.2.any (·==one)=true then f++[u.1] else f
noncomputable def gS(ar au:List (Str×List Str))(one:Str):List Str:=au.foldl (gL one) (gN ar one)
noncomputable def cw(f:List Str)(p:Str):List Str:=if f.any (·==p)=true then f else f++[p]
noncomputable def gF(ar au:List (Str×List Str)):Nat→Nat→List Str→List Str
 |0,_,f=>f
 |n+1,i,f=>match f[i]? with
  |some one=>gF ar au n (i+1) ((gS ar au one).foldl cw f)
  |none=>f
noncomputable def gI(ar au:List (Str×List Str))(x:Str):List Str:=x::(ar.flatMap (·.2)++au.map (·.1)++[q "numeric",q "vector"])
noncomputable def cT(ar au:List (Str×List Str))(x:Str):List Str:=gF ar au (gI ar au x).length 0 [x]
structure fU(ar au:List (Str×List Str))(x:Str)(f:List Str):Prop where
 nd:f.Nodup
 sb:∀y∈f,y∈gI ar au x
theorem fU.len{ar au x f}(G:fU ar au x f):f.length≤(gI ar au x).length:=BR G.nd G.sb
theorem AS{one:Str}:∀{us:List (Str×List Str)} {f:List Str} {p:Str},p∈us.foldl (gL one) f→p∈f∨p∈us.map (·.1)
 |[],f,p,h=> .inl h
 |u::r,f,p,h=>by
  rcases AS (us:=r) (f:=gL one f u) h with h|h
  ·unfold gL at h
   split at h
   ·rcases List.mem_append.mp h with h|h
    ·exact .inl h
    ·simp at h;subst h;exact .inr (by simp)
   ·exact .inl h
  ·exact .inr (by simp at h ⊢;exact .inr h)
theorem Yt{ar au x one p}(h:p∈gN ar one):p∈gI ar au x:=by
 unfold gN at h
 unfold gI
 cases e:aM ar one with
 |some ms=>rw[e] at h;exact .tail _ (List.mem_append_left _ (List.mem_append_left _ (List.mem_flatMap.mpr ⟨_,ii e,h⟩)))
 |none=>
  rw[e] at h
  simp only[Option.getD_none] at h
  cases e2:aM hH one with
  |none=>rw[e2] at h;simp at h
  |some ms=>
   rw[e2] at h
   have hm:=ii e2
   unfold hH at hm
   simp only[List.mem_cons,Prod.mk.injEq,List.not_mem_nil,or_false] at hm
   simp only[Option.getD_some] at h
   refine .tail _ (List.mem_append_right _ ?_)
   rcases hm with⟨_,rfl⟩|⟨_,rfl⟩|⟨_,rfl⟩<;>simp at h<;>subst h<;>simp
theorem HA{ar au x one p}(h:p∈gS ar au one):p∈gI ar au x:=by
 rcases AS h with h|h
 ·exact Yt h
 ·exact .tail _ (List.mem_append_left _ (List.mem_append_right _ h))
set_option tactic.hygienic true in
theorem fU.add {ar au x f p} (G:fU ar au x f) (hp:p∈gI ar au x):fU ar au x (cw f p):=by
 unfold cw
 split
 ·exact G
 ·rename_i h
  refine⟨?_,fun y hy=>?_⟩
  ·rw[List.nodup_append]
   refine⟨G.nd,by simp,fun a ha b hb e=>h ?_⟩
   simp at hb;subst hb;subst e
   exact List.any_eq_true.mpr ⟨a,ha,by simp⟩
  ·rcases List.mem_append.mp hy with h|h
   ·exact G.sb y h
   ·simp at h;subst h;exact hp
theorem fU.one{ar au x}:fU ar au x [x]:=⟨by simp,fun y hy=>by simp at hy;subst hy;exact .head _⟩
theorem lX{ar au}{n i:Nat}{f:List Str}{one:Str}(h:f[i]?=some one):gF ar au (n+1) i f=gF ar au n (i+1) ((gS ar au one).foldl cw f):=by
 conv=>lhs;unfold gF
 rw[h]
theorem jF{ar au}{n i:Nat}{f:List Str}(h:f[i]?=none):gF ar au n i f=f:=by
 cases n with
 |zero=>rfl
 |succ n=>unfold gF;rw[h]
theorem W4{f:List Str}{p:Str}(h:(!(f.any (·==p)))=true):cw f p=f++[p]:=by unfold cw;rw[if_neg (by intro e;rw[e] at h;cases h)]
theorem WX{f:List Str}{p:Str}(h:(!(f.any (·==p)))=false):cw f p=f:=by unfold cw;rw[if_pos (by simpa using h)]
theorem G7{one:Str}{f:List Str}{k:Str}(h:ms.any (·==one)=true):gL one f (k,ms)=f++[k]:=by unfold gL;rw[if_pos h]
theorem G6{one:Str}{f:List Str}{k:Str}(h:ms.any (·==one)=false):gL one f (k,ms)=f:=by unfold gL;rw[if_neg (by rw[h];decide)]
theorem Ql{one:Str}:∀(us:List (Str×List Str)) (f:List Str),(us.foldl (gL one) f).length≤f.length+us.length
 |[],f=>by simp
 |u::r,f=>by
  have:=Ql (one:=one) r (gL one f u)
  have h:(gL one f u).length≤f.length+1:=by unfold gL;split<;>simp
  simp;exact Ut this h
structure nB(ar au:List (Str×List Str)):Prop where
 o:ar.length≤100
 u:au.length≤100
 s:∀p∈ar,p.2.length≤100
theorem Ys{ar au}(z:nB ar au)(x:Str):(gN ar x).length≤100:=by
 unfold gN
 cases e:aM ar x with
 |some ms=>exact z.s _ (ii e)
 |none=>
  simp only[Option.getD_none]
  cases e2:aM hH x with
  |none=>simp
  |some ms=>
   have hm:=ii e2
   unfold hH at hm
   simp only[List.mem_cons,Prod.mk.injEq,List.not_mem_nil,or_false] at hm
   rcases hm with⟨_,rfl⟩|⟨_,rfl⟩|⟨_,rfl⟩<;>simp
theorem VX{ar au}(z:nB ar au)(x:Str):(gI ar au x).length≤11000:=by
 have h:∀l:List (Str×List Str),(∀p∈l,p.2.length≤100)→(l.flatMap (·.2)).length≤l.length*100:=by
  intro l
  induction l with
  |nil=>intro _;simp
  |cons a r ih=>
   intro hh
   have h1:=hh a (.head _)
   have h2:=ih fun p hp=>hh p (.tail _ hp)
   rw[List.flatMap_cons,List.length_append,List.length_cons]
   exact xe6 h1 h2
 have h1:=h ar z.s
 have h2:=z.o
 have h3:=z.u
 unfold gI
 simp only[List.length_cons,List.length_append,List.length_map,List.length_nil]
 exact xe5 h1 h2 h3
theorem Dc.Jj{af w aa ag d cs}(D:Dc af w aa d (iN aa) cs)(k:∀p∈aa,p∈ag):Dc af w ag d (iN ag) cs:=D.mono (fun zz zz zz h=>h.mem k) fun zz m=>k _ m
theorem Yo:bT (bT (bT ([]:List (Str×List Str)) (q "integer") [q "numeric"]) (q "numeric") [q "vector"]) (q "character") [q "vector"]=hH:=by kernel_rfl
theorem iN.on{x ms v}(S:St ai ae L s l aa)(h:iN aa x ms v):iN aa x ms v:=h
section
theorem Az{wc ov uv:Addr}{ar au:List (Str×List Str)}{tx:Tok}(C:Cx gx aH A ae aE az L (dp+1) (un+3))(S:St ai ae L s l aa)(D:Wd af gx.gw aa wc ov uv ar au)(z:nB ar au)(ret:∀r vs n aw s',St ai ae L s' l ((r,listOf vs n)::(aw++aa))→StrsAre vs.toList (cT ar au x)→R (.ok (.ret (.ref r))) s'):
  codeAny (model af gx.gw) A (.call (.ref 1481) ⟨[.ref wc,.str x tx],[]⟩) R s:=by
 refine xbR C S (fun g1 L1 s C S=>bo ?_)
 intro Kz Ez
 have hU:=VX z x
 refine ec ?_
 intro Kz
 refine aX ?_
 exists Pa C S (by kernel_rfl) (by kernel_rfl) (by simp) (by decide) (fun d1 s S iH=>?_)
 refine pairTrees_cons_walk ?_
 exists bE S (fun bO s S=>List_<|cz S (fun cu s S=>?_))
 refine dm S aG (fun x4 s S i2=>pairTrees_cons_walk ?_)
 exists bE S (fun ej s S=>List_<|cz S (fun ed s S=>?_))
 refine dm S aG (fun x7 s S lU=>pairTrees_cons_walk ?_)
 exists bE S (fun ml s S=>List_<|cz S (fun gH s S=>?_))
 refine dm S aG (fun iq s S SR=>pairTrees_nil_walk<|gJ (d:=[(q "integer",.ref x4),(q "numeric",.ref x7),(q "character",.ref iq)]) (bW S (fun zz=>(Up.tail (Up.tail (Up.tail Up.head)))) ⟨strKind_is _ _ _ _,rfl,strKind_is _ _ _ _,rfl,strKind_is _ _ _ _,rfl,trivial⟩ (fun jG s hd1 S=>aW S (fun s S=>ec ?_))))
 intro Kz
 refine aX ?_
 exists List_<|aU S (am ah) ?_
 refine dm S aG (fun ls s S xeg=>aW S (fun s S=>?_))
 have Wl:Dc af gx.gw [(iq,listOf [Value.str (q "vector") gH].toArray 0),(x7,listOf [Value.str (q "vector") ed].toArray 0),(x4,listOf [Value.str (q "numeric") cu].toArray 0),(d1,jG)] d1 (iN [(iq,listOf [Value.str (q "vector") gH].toArray 0),(x7,listOf [Value.str (q "vector") ed].toArray 0),(x4,listOf [Value.str (q "numeric") cu].toArray 0),(d1,jG)]) (bT (bT (bT ([]:List (Str×List Str)) (q "integer") [q "numeric"]) (q "numeric") [q "vector"]) (q "character") [q "vector"]):=⟨⟨jG,_,mT (bc (mH)),hd1,((Al.nil.put (P:=iN [(iq,listOf [Value.str (q "vector") gH].toArray 0),(x7,listOf [Value.str (q "vector") ed].toArray 0),(x4,listOf [Value.str (q "numeric") cu].toArray 0),(d1,jG)]) (x:=q "integer") (b:=[q "numeric"]) ⟨x4,_,_,rfl,mT (mT mH),.cons _ _ .nil⟩).put (x:=q "numeric") (b:=[q "vector"]) ⟨x7,_,_,rfl,mT mH,.cons _ _ .nil⟩).put (x:=q "character") (b:=[q "vector"]) ⟨iq,_,_,rfl,mH,.cons _ _ .nil⟩⟩,iH⟩
 have Qb:=Wl
 rw[Yo] at Qb
 refine ec ?_
 intro Kz
 refine uh ?_
 exists ap S ah ?_
 refine U0 C S (fun i l' ag=>(l'.lookup (q "world")=some (.ref wc)∧l'.lookup (q "basics")=some (.ref d1)∧l'.lookup (q "found")=some (.ref ls))∧∃fv fn aw fs,ag=(((ls,listOf fv fn)::(aw++aa)):List (Addr×Obj))∧Dc af gx.gw aw d1 (iN aw) hH∧StrsAre fv.toList fs∧fU ar au x fs∧gF ar au ((gI ar au x).length- i) i fs=cT ar au x)
  (gI ar au x).length ⟨⟨(aV ah),(am ah),ah⟩,_,_,_,[x],rfl,Qb,.cons _ _ .nil,fU.one,rfl⟩ (fun i l' ag hJ=>by obtain⟨_,fv,fn,aw,fs,rfl,_,hs,G,_⟩:=hJ;exact⟨_,_,mH,by have:=cG hs;rw[Array.length_toList] at this;rw[this];exact G.len⟩) (fun i v pv pn s l' ag it hJ j4 iY S=>?_) (fun i pv pn s l' ag hJ j4 iY S=>?_)
 ·refine ay hJ fun z1 z2=>aO z1 fun hW hB hF=>cB z2 fun fv fn aw fs z3=>eJ z3 fun z4 Db iW G hn=>?_
  clear hJ z1 z2 z3
  subst z4
  have dv:=S.uniq (mT mH) (mT j4)
  injection dv with _ _ dv _;injection dv with dv _;subst dv
  refine aP (eW iW (i:=i) (by simpa using iY)) fun one t1 z1=>ay z1 fun z2 iD=>?_
  clear z1
  subst z2
  have vB:=Ys z one
  have jg:i<fs.length:=by rcases Nat.lt_or_ge i fs.length with h|h;exact h;rw[List.getElem?_eq_none h] at iD;cases iD
  have hG:=G.len
  refine ec ?_
  intro Kz
  refine aX<|fS C S (nP _) nD<|spliced_more<|methodCall_KW<|Subscript_ ?_
  exists ap S (am hW)<|bE S (fun GI s S=>?_)
  refine i6 S D.app.up.up.d AJ (fun v s hp S=>?_)
  subst hp
  refine Av S D.app.up.up.o ?_
  exists bQ S ah ?_
  refine spliced_more<|methodCall_KW ?_
  exists ap S (am hB) ?_
  refine Av S (Db.Jj (fun p h=>mT (mT (List.mem_append_left _ h)))) ?_
  exists bQ S ah ?_
  refine spliced_more ?_
  exists List_ ?_
  refine cF S aG (fun pj s S xeh=>spliced_none<|UW S (Db.Jj (fun p h=>mT (bc (List.mem_append_left _ h)))) (fun y1 s Bx S=>spliced_none<|UW S D.app.up.up.up.o (fun y2 s vK S=>spliced_none ?_)))
  obtain⟨ga,gv,gn,rfl,hgm,j1⟩:∃a vs n,y2= .ref a∧(a,listOf vs n)∈((pj,listOf #[] 0)::it::(ls,listOf fv fn)::(aw++aa):List (Addr×Obj))∧StrsAre vs.toList (gN ar one):=by
   unfold gN
   cases e1:aM ar one with
   |some ms=>rw[e1] at vK;exact vK
   |none=>
    rw[e1] at vK
    dsimp only at vK
    subst vK
    cases e2:aM hH one with
    |some ms=>rw[e2] at Bx;exact Bx
    |none=>rw[e2] at Bx;exact⟨pj,#[],_,Bx,mH,.nil⟩
  have qc:=bX (cG j1)
  have Ik:gv.size≤sizeLine:=by rw[sizeLine_eq];exact nc vB qc
  refine oW S hgm Ik (fun fu cfu s S lfu=>aW S (fun s S=>aP D.u.ex fun ou ku z1=>aO z1 fun IC Ih uU=>?_))
  clear z1
  refine ec ?_
  intro Kz
  refine uh<|Subscript_ ?_
  exists ap S (aB hW)<|bE S (fun xjl s S=>?_)
  refine i6 S D.app.up.up.up.up.d AK (fun v s hp S=>?_)
  subst hp
  refine Gu C S Ih D.u.lo (fun j l' ag=>(l'.lookup (q "world")=some (.ref wc)∧l'.lookup (q "basics")=some (.ref d1)∧l'.lookup (q "found")=some (.ref ls)∧l'.lookup (q "one")=some (.str one t1)∧l'.lookup (q "further")=some (.ref fu))∧∃gv gn,ag=((fu,listOf gv gn)::(pj,listOf #[] 0)::it::(ls,listOf fv fn)::(aw++aa):List (Addr×Obj))∧StrsAre gv.toList ((au.take j).foldl (gL one) (gN ar one)))
   ⟨⟨(aB hW),(aB hB),(aB hF),(am ah),ah⟩,gv,_,rfl,j1⟩ (fun j l' ag hJ=>by obtain⟨_,_,_,rfl,_⟩:=hJ;exact(ch (mA IC))) (fun j k v AB s l' ag i0 hJ hj S=>?_) (fun s l' ag hJ S=>?_)
  ·refine ay hJ fun z1 z2=>eJ z1 fun hW hB hF hO vA=>aP z2 fun gv gn z3=>ay z3 fun z4 j1=>?_
   clear hJ z1 z2 z3
   subst z4
   refine aS (uU.get hj) fun ms z1=>ay z1 fun dO hLs=>?_
   clear z1
   have gr:=Ql (one:=one) (au.take j) (gN ar one)
   have eE:=List.length_take_le' j au
   have IY:=z.u
   have qc:=bX (cG j1)
   have Ik:gv.size≤sizeLine:=by rw[sizeLine_eq];exact xe9 vB gr eE IY qc
   refine ec ?_
   intro Kz
   refine br ?_
   exists ap S (am hO) ?_
   refine Subscript_<|Subscript_ ?_
   exists ap S (am hW)<|bE S (fun xjm s S=>?_)
   refine i6 S D.app.up.up.up.up.up.d AK (fun v s hp S=>?_)
   subst hp
   exists ap S ah ?_
   refine i6 S D.app.up.up.up.up.up.u (Je D.u.nodup dO) (fun v s hp S=>cQ hp fun ua uvs un z1=>aO z1 fun z2 IP hus=>?_)
   clear hp z1
   subst z2
   exists in_list_strs (St.lst S IP) hus<|bV (fun c0=>?_) (fun c0=>?_)
   ·refine ec ?_
    intro Kz
    refine wpAny_Expr<|methodCall_KW ?_
    exists ap S (am vA) ?_
    refine ft S (mT mH) ?_
    exists ap S ah ?_
    refine fb S (Up.tail Up.head) Ik (fun s S=>wpAny_execs_nil<|wpAny_execs_nil<|aN (aR S (iL (am hW) (am hB) (am hF) (am hO) (am vA)) (aN (bC rfl ?_))))
    rw[dq _ _ dO,G7 c0];exact pf j1
   ·refine wpAny_execs_nil<|wpAny_execs_nil<|aN (aR S (iL (am hW) (am hB) (am hF) (am hO) (am vA)) (aN (bC rfl ?_)))
    rw[dq _ _ dO,G6 c0];exact j1
  refine ay hJ fun z1 z2=>eJ z1 fun hW hB hF hO vA=>aP z2 fun gv gn z3=>ay z3 fun z4 j1=>?_
  clear hJ z1 z2 z3
  subst z4
  rw[take_all _ _ uU.len] at j1
  have qc:=bX (cG j1)
  have Ij:au.foldl (gL one) (gN ar one)=gS ar au one:=rfl
  rw[Ij] at j1 qc
  refine ec ?_
  intro Kz
  refine cD ?_
  exists ap S vA ?_
  refine dg C.hh S mH (fun Iy oj s S eP Wj=>?_)
  refine dF Wj S eP (fun j l' ag=>(l'.lookup (q "world")=some (.ref wc)∧l'.lookup (q "basics")=some (.ref d1)∧l'.lookup (q "found")=some (.ref ls))∧∃fv fn,ag=((fu,listOf gv gn)::(pj,listOf #[] 0)::it::(ls,listOf fv fn)::(aw++aa):List (Addr×Obj))∧StrsAre fv.toList (((gS ar au one).take j).foldl cw fs)∧fU ar au x (((gS ar au one).take j).foldl cw fs)) ⟨⟨hW,hB,hF⟩,fv,fn,rfl,iW,G⟩ (fun zz zz zz hJ=>by obtain⟨_,_,_,rfl,_⟩:=hJ;exact mH) (fun j vv s l' ag i0 hj hv hJ S=>?_) (fun s l' ag hJ S=>?_)
  ·intro Kz Ez
   refine ay hJ fun z1 z2=>aO z1 fun hW hB hF=>aP z2 fun fv fn z3=>aO z3 fun z4 iW G=>?_
   clear hJ z1 z2 z3
   subst z4
   refine aP (eW j1 (i:=j) (by simpa using hv)) fun p tp z1=>ay z1 fun z2 hp=>?_
   clear z1
   subst z2
   have hG:=G.len
   have eR:=bX (cG iW)
   have nX:fv.size≤sizeLine:=by rw[sizeLine_eq];exact xe8 hU hG eR
   exists dG S ?_
   intro lz dz S
   refine eu S (fun s S=>ec ?_)
   intro Kz
   refine br ?_
   exists ap S ah<|ap S (am hF)<|notin_list_strs (St.lst S (ch mH)) iW<|bV (fun c0=>?_) (fun c0=>?_)
   ·refine ec ?_
    intro Kz
    refine wpAny_Expr<|methodCall_KW ?_
    exists ap S (am hF) ?_
    refine ft S (ch mH) ?_
    exists ap S ah ?_
    refine fb S (Up.tail (Up.tail (Up.tail (Up.tail Up.head)))) nX (fun s S=>wpAny_execs_nil<|wpAny_execs_nil<|aN (aR S (aR (am hW) (am hB) (am hF)) (aN (aR rfl ?_ ?_))))
    ·rw[dq _ _ hp,W4 c0];exact pf iW
    rw[dq _ _ hp];exact G.add (HA (List.mem_of_getElem? hp))
   ·refine wpAny_execs_nil<|wpAny_execs_nil<|aN (aR S (aR (am hW) (am hB) (am hF)) (aN (aR rfl ?_ ?_)))
    ·rw[dq _ _ hp,WX c0];exact iW
    rw[dq _ _ hp];exact G.add (HA (List.mem_of_getElem? hp))
  refine ay hJ fun z1 z2=>aO z1 fun hW hB hF=>aP z2 fun RS RG z3=>aO z3 fun z4 Sg G2=>?_
  clear hJ z1 z2 z3
  subst z4
  rw[List.take_of_length_le (by exact fK qc)] at Sg G2
  refine wpAny_execs_nil ?_
  have S:=St.perm (ag:=it::(ls,listOf RS RG)::(((fu,listOf gv gn)::(pj,listOf #[] 0)::aw)++aa)) S (pc fun f=>by simp only[List.countP_append,List.countP_cons];ac_rfl)
  refine aN (aR S (aR hW hB hF) (gJ (a:=RS) (b:=RG) (c:=(fu,listOf gv gn)::(pj,listOf #[] 0)::aw) (iL rfl (Db.Jj (fun p h=>mT (mT h))) Sg G2 ?_)))
  obtain⟨m,hm⟩:∃m,(gI ar au x).length- i=m+1:=⟨(gI ar au x).length- i- 1,by exact xe7 jg hG⟩
  rw[←hn,hm,lX iD,show(gI ar au x).length- (i+1)=m by exact Us hm]
 refine ay hJ fun z1 z2=>aO z1 fun hW hB hF=>cB z2 fun fv fn aw fs z3=>eJ z3 fun z4 Db iW G hn=>?_
 clear hJ z1 z2 z3
 subst z4
 have dv:=S.uniq mH j4
 injection dv with _ _ dv _;injection dv with dv _;subst dv
 have eR:=bX (cG iW)
 have n0:fv.size≤i:=by
  rcases Nat.lt_or_ge i fv.size with z|z
  ·rw[Array.getElem?_eq_getElem z] at iY;cases iY
  ·exact z
 rw[jF (List.getElem?_eq_none (by exact ON eR n0))] at hn;subst hn
 refine ec ?_
 intro Kz
 refine wpAny_Return_some ?_
 exists ap S hF ?_
 refine aT S (fun S=>?_)
 exact ret ls fv fn aw s S iW
end
noncomputable def tU(m:Str):Str:=q "the member classes must be defined: not true of “"++m++q "”"
noncomputable def tC(m nm:Str):Str:=q "no definition was found for superclass “"++m++q "” in the specification of class “"++nm++q "”"
noncomputable def tO(nm:Str):Str:=q "class “"++nm++q "” cannot be its own superclass"
noncomputable def iS(ar au:List (Str×List Str))(bu:Bool)(word m:Str):Option Str:=
 if m3 ar au m=false then some (if bu then tU m else tC m word) else if (m==word||(cT ar au (if bu then word else m)).any (·==(if bu then m else word)))=true then some (tO word) else none
noncomputable def pH(ar au:List (Str×List Str))(bu:Bool)(word:Str)(ms:List Str):Str:=(ms.findSome? (iS ar au bu word)).getD (q "")
theorem QH{ar au bu word m}(h:m3 ar au m=false):iS ar au bu word m=some (if bu then tU m else tC m word):=by unfold iS;rw[if_pos h]
theorem AY{ar au bu word m}(h:m3 ar au m=true)(h2:(m==word||(cT ar au (if bu then word else m)).any (·==(if bu then m else word)))=true):iS ar au bu word m=some (tO word):=by unfold iS;rw[if_neg (by rw[h];decide),if_pos h2]
theorem QG{ar au bu word m}(h:m3 ar au m=true)(h1:(m==word)=false)(h2:(cT ar au (if bu then word else m)).any (·==(if bu then m else word))=false):iS ar au bu word m=none:=by unfold iS;rw[if_neg (by rw[h];decide),h1,h2];rfl
theorem pI{ar au bu word ms}{i:Nat}{m t:Str}(hm:ms[i]?=some m)(hf:(ms.take i).findSome? (iS ar au bu word)=none)(h:iS ar au bu word m=some t):pH ar au bu word ms=t:=by unfold pH;rw[oZ hm hf h];rfl
theorem St.uZ:∀{aw:List (Addr×Obj)},St ai ae L s l (aw++aa)→St ai ae L s l aa
 |[],S=>S
 |_::_,S=>St.uZ (St.drop S)
section
theorem xiB{wc ov uv:Addr}{ar au:List (Str×List Str)}{tx:Tok}{jc:Addr}{jv:Array Value}{jk:Nat}{bu:Bool}(C:Cx gx aH A ae aE az L (dp+2) (un+6))(S:St ai ae L s l aa)(D:Wd af gx.gw aa wc ov uv ar au)(z:nB ar au)(qd:(jc,listOf jv jk)∈aa)(vG:StrsAre jv.toList ms)(fZ:ms.length≤100)(jA:∀m∈ms,m.length≤1000)(k4:x.length≤1000)(ret:∀tk s',St ai ae L s' l aa→R (.ok (.ret (.str (pH ar au bu x ms) tk))) s'):
  codeAny (model af gx.gw) A (.call (.ref 1495) ⟨[.ref wc,.str x tx,.ref jc,.bool bu],[]⟩) R s:=by
 refine xbT C S (fun g1 L1 s C S=>bo ?_)
 intro Kz Ez
 have jz:=bX (cG vG)
 have IF:jv.size≤sizeLine:=by rw[sizeLine_eq];exact nc fZ jz
 refine ec ?_
 intro Kz
 refine cD ?_
 exists ap S (am ah) ?_
 refine dg C.hh S qd (fun Ix oi s S hO Wi=>?_)
 refine dF Wi S hO (fun i l' ag=>(l'.lookup (q "world")=some (.ref wc)∧l'.lookup (q "word")=some (.str x tx)∧l'.lookup (q "joiners")=some (.ref jc)∧l'.lookup (q "as_union")=some (.bool bu))∧aa=ag∧(ms.take i).findSome? (iS ar au bu x)=none) ⟨⟨(aV ah),(aB ah),(am ah),ah⟩,rfl,rfl⟩ (fun zz zz zz hJ=>by obtain⟨_,rfl,_⟩:=hJ;exact qd) (fun i vv s l' ag it hi hv hJ S=>?_) (fun s l' ag hJ S=>?_)
 ·intro Kz Ez
  revert hJ;intro zJ
  refine aO zJ fun z1 e2 hf=>bB z1 fun hW hN hJ hB=>?_
  clear zJ z1
  subst e2
  refine aP (eW vG (i:=i) (by simpa using hv)) fun m tm z1=>ay z1 fun z2 hm=>?_
  clear z1
  subst z2
  have gA:=jA m (List.mem_of_getElem? hm)
  exists dG S ?_
  intro lz dz S
  refine eu S (fun s S=>?_)
  have hcb:bu=false∨bu=true:=by cases bu<;>simp
  rcases hcb with eQ|eQ
  ·rw[eQ] at hB
   refine ec ?_
   intro Kz
   refine wpAny_If<|isTrue_not<|isTrue_plain<|aY C S (RZ _) ?_
   exists bQ S (am hW)<|aU S ah ?_
   refine bh C S<|VC C S D.up (fun s S=>?_)
   exists wpAny_truthy_bool ?_
   refine vO (fun c0=>?_) (fun c0=>?_)
   ·refine ec ?_
    intro Kz
    refine wpAny_If<|isTrue_plain ?_
    exists ap S (am hB)<|ei ?_
    refine wpAny_execs_nil<|ec ?_
    intro Kz
    refine wpAny_Return_some ?_
    exists wpAny_BinOp<|wpAny_BinOp<|wpAny_BinOp<|wpAny_BinOp<|bE S (fun bp s S=>ap S ah ?_)
    refine iI S (Nat.le_trans (Nat.add_le_add (bI (by kernel_rfl)) gA) (by decide)) (fun ta s S=>?_)
    exists bE S (fun bO s S=>?_)
    refine iI S (Nat.le_trans (Nat.add_le_add (sL (bI (by kernel_rfl)) gA) (bI (by kernel_rfl))) (by decide)) (fun ta s S=>?_)
    exists ap S (am hN) ?_
    refine iI S (Nat.le_trans (Nat.add_le_add (sL (sL (bI (by kernel_rfl)) gA) (bI (by kernel_rfl))) k4) (by decide)) (fun ta s S=>?_)
    exists bE S (fun cu s S=>?_)
    refine iI S (Nat.le_trans (Nat.add_le_add (sL (sL (sL (bI (by kernel_rfl)) gA) (bI (by kernel_rfl))) k4) (bI (by kernel_rfl))) (by decide)) (fun ta s S=>?_)
    replace S:=St.drop S
    refine aT S (fun S=>?_)
    rw[pI hm hf (QH c0)] at ret;try rw[eQ] at ret
    exact ret _ s S
   ·refine wpAny_execs_nil<|ec ?_
    intro Kz
    refine aX<|IfExp_<|isTrue_plain ?_
    exists ap S (am hB)<|ei<|ap S ah ?_
    refine aW S (fun s S=>ec ?_)
    intro Kz
    refine aX<|IfExp_<|isTrue_plain ?_
    exists ap S (aB hB)<|ei<|ap S (aB hN) ?_
    refine aW S (fun s S=>ec ?_)
    intro Kz
    refine wpAny_If<|isTrue_or<|wpAny_isTrue_Compare1 ?_
    exists ap S (aB ah)<|ap S (aV hN)<|eq_str<|bV (fun c1=>?_) (fun c1=>?_)
    ·exists er ?_
     refine ec ?_
     intro Kz
     refine wpAny_Return_some ?_
     exists wpAny_BinOp<|wpAny_BinOp<|bE S (fun bp s S=>ap S (aV hN) ?_)
     refine iI S (Nat.le_trans (Nat.add_le_add (bI (by kernel_rfl)) k4) (by decide)) (fun ta s S=>?_)
     exists bE S (fun bO s S=>?_)
     refine iI S (Nat.le_trans (Nat.add_le_add (sL (bI (by kernel_rfl)) k4) (bI (by kernel_rfl))) (by decide)) (fun ta s S=>?_)
     replace S:=St.drop S
     refine aT S (fun S=>?_)
     rw[pI hm hf (AY c0 (by rw[c1];rfl))] at ret;try rw[eQ] at ret
     exact ret _ s S
    ·refine isTrue_or<|wpAny_isTrue_Compare1 ?_
     exists ap S ah ?_
     refine aY C S (vi _) ?_
     exists bQ S (aV hW)<|aU S (am ah) ?_
     refine bh C S<|Az C S D.up z (fun r1 rv rn re s S kY=>?_)
     exists in_list_strs (St.lst S mH) kY ?_
     replace S:=St.drop S
     replace S:=St.uZ S
     exists bV (fun c2=>?_) (fun c2=>?_)
     ·exists er ?_
      refine ec ?_
      intro Kz
      refine wpAny_Return_some ?_
      exists wpAny_BinOp<|wpAny_BinOp<|bE S (fun bp s S=>ap S (aV hN) ?_)
      refine iI S (Nat.le_trans (Nat.add_le_add (bI (by kernel_rfl)) k4) (by decide)) (fun ta s S=>?_)
      exists bE S (fun bO s S=>?_)
      refine iI S (Nat.le_trans (Nat.add_le_add (sL (bI (by kernel_rfl)) k4) (bI (by kernel_rfl))) (by decide)) (fun ta s S=>?_)
      replace S:=St.drop S
      refine aT S (fun S=>?_)
      rw[pI hm hf (AY c0 (by rw[c1,eQ];exact c2))] at ret;try rw[eQ] at ret
      exact ret _ s S
     ·exists isTrue_or_nil<|cJ ?_
      refine wpAny_execs_nil<|wpAny_execs_nil ?_
      rw[←eQ] at hB
      exact aN (bW S (bW (aV hW) (aV hN) (aV hJ) (aV hB)) rfl (BS hm hf (QG c0 c1 (by rw[eQ];exact c2))))
  ·rw[eQ] at hB
   refine ec ?_
   intro Kz
   refine wpAny_If<|isTrue_not<|isTrue_plain<|aY C S (RZ _) ?_
   exists bQ S (am hW)<|aU S ah ?_
   refine bh C S<|VC C S D.up (fun s S=>?_)
   exists wpAny_truthy_bool ?_
   refine vO (fun c0=>?_) (fun c0=>?_)
   ·refine ec ?_
    intro Kz
    refine wpAny_If<|isTrue_plain ?_
    exists ap S (am hB)<|gZ ?_
    refine ec ?_
    intro Kz
    refine wpAny_Return_some ?_
    exists wpAny_BinOp<|wpAny_BinOp<|bE S (fun bp s S=>ap S ah ?_)
    refine iI S (Nat.le_trans (Nat.add_le_add (bI (by kernel_rfl)) gA) (by decide)) (fun ta s S=>?_)
    exists bE S (fun bO s S=>?_)
    refine iI S (Nat.le_trans (Nat.add_le_add (sL (bI (by kernel_rfl)) gA) (bI (by kernel_rfl))) (by decide)) (fun ta s S=>?_)
    replace S:=St.drop S
    refine aT S (fun S=>?_)
    rw[pI hm hf (QH c0)] at ret;try rw[eQ] at ret
    exact ret _ s S
   ·refine wpAny_execs_nil<|ec ?_
    intro Kz
    refine aX<|IfExp_<|isTrue_plain ?_
    exists ap S (am hB)<|gZ<|ap S (am hN) ?_
    refine aW S (fun s S=>ec ?_)
    intro Kz
    refine aX<|IfExp_<|isTrue_plain ?_
    exists ap S (aB hB)<|gZ<|ap S (am ah) ?_
    refine aW S (fun s S=>ec ?_)
    intro Kz
    refine wpAny_If<|isTrue_or<|wpAny_isTrue_Compare1 ?_
    exists ap S (aB ah)<|ap S (aV hN)<|eq_str<|bV (fun c1=>?_) (fun c1=>?_)
    ·exists er ?_
     refine ec ?_
     intro Kz
     refine wpAny_Return_some ?_
     exists wpAny_BinOp<|wpAny_BinOp<|bE S (fun bp s S=>ap S (aV hN) ?_)
     refine iI S (Nat.le_trans (Nat.add_le_add (bI (by kernel_rfl)) k4) (by decide)) (fun ta s S=>?_)
     exists bE S (fun bO s S=>?_)
     refine iI S (Nat.le_trans (Nat.add_le_add (sL (bI (by kernel_rfl)) k4) (bI (by kernel_rfl))) (by decide)) (fun ta s S=>?_)
     replace S:=St.drop S
     refine aT S (fun S=>?_)
     rw[pI hm hf (AY c0 (by rw[c1];rfl))] at ret;try rw[eQ] at ret
     exact ret _ s S
    ·refine isTrue_or<|wpAny_isTrue_Compare1 ?_
     exists ap S ah ?_
     refine aY C S (vi _) ?_
     exists bQ S (aV hW)<|aU S (am ah) ?_
     refine bh C S<|Az C S D.up z (fun r1 rv rn re s S kY=>?_)
     exists in_list_strs (St.lst S mH) kY ?_
     replace S:=St.drop S
     replace S:=St.uZ S
     exists bV (fun c2=>?_) (fun c2=>?_)
     ·exists er ?_
      refine ec ?_
      intro Kz
      refine wpAny_Return_some ?_
      exists wpAny_BinOp<|wpAny_BinOp<|bE S (fun bp s S=>ap S (aV hN) ?_)
      refine iI S (Nat.le_trans (Nat.add_le_add (bI (by kernel_rfl)) k4) (by decide)) (fun ta s S=>?_)
      exists bE S (fun bO s S=>?_)
      refine iI S (Nat.le_trans (Nat.add_le_add (sL (bI (by kernel_rfl)) k4) (bI (by kernel_rfl))) (by decide)) (fun ta s S=>?_)
      replace S:=St.drop S
      refine aT S (fun S=>?_)
      rw[pI hm hf (AY c0 (by rw[c1,eQ];exact c2))] at ret;try rw[eQ] at ret
      exact ret _ s S
     ·exists isTrue_or_nil<|cJ ?_
      refine wpAny_execs_nil<|wpAny_execs_nil ?_
      rw[←eQ] at hB
      exact aN (bW S (bW (aV hW) (aV hN) (aV hJ) (aV hB)) rfl (BS hm hf (QG c0 c1 (by rw[eQ];exact c2))))
 revert hJ;intro zJ
 refine aO zJ fun z1 e2 hf=>bB z1 fun hW hN hJ hB=>?_
 clear zJ z1
 subst e2
 rw[List.take_of_length_le (by exact fK jz)] at hf
 refine ec ?_
 intro Kz
 refine wpAny_Return_some ?_
 exists bE S (fun bp s S=>?_)
 refine aT S (fun S=>?_)
 unfold pH at ret;rw[hf] at ret
 exact ret _ s S
end
noncomputable def eG:List Str:=[q "C0",q "C1",q "C2",q "U0",q "U1",q "Zz",q "numeric",q "integer",q "character"]
theorem xhf:eG.all (fun m=>nC.any (·==m)==Jc.any (·==m))=true:=by kernel_rfl
structure Rel(ar au:List (Str×List Str))(cs:List (Str×CA))(us:List (Str×List Str)):Prop where
 u:us=au
 lk:∀x,aM cs x=match aM ar x with|some ms=>some ⟨false,ms⟩|none=>if (aM au x).isSome=true then some ⟨true,[]⟩ else none
 dj:∀x,(aM ar x).isSome=true→aM au x=none
theorem Rel.known{ar au cs us m}(R:Rel ar au cs us)(hm:m∈eG):ig cs m=m3 ar au m:=by
 have h:=List.all_eq_true.mp xhf m hm
 have h:nC.any (·==m)=Jc.any (·==m):=by simpa using h
 unfold ig m3
 rw[h,R.lk]
 cases e1:aM ar m with
 |some _=>rfl
 |none=>
  cases e2:aM au m with
  |some _=>rfl
  |none=>rfl
theorem empty_app(x:Str):Str.empty++x=x:=by
 have:∀a:Array Nat,(#[]:Array Nat)++a=a:=fun a=>by simp
 show(⟨_⟩:Str)=x
 cases x with|mk c=>exact congrArg Str.mk (by simp[Str.empty])
theorem WV{f:List Str}{p:Str}(h:y∈f):y∈cw f p:=by
 unfold cw;split
 ·exact h
 ·exact List.mem_append_left _ h
set_option tactic.hygienic true in
theorem WZ {f:List Str} {p:Str}:p∈cw f p:=by
 unfold cw;split
 ·rename_i h;obtain⟨a,ha,e⟩:=List.any_eq_true.mp h;have:=eq_of_beq e;subst this;exact ha
 ·simp
theorem WT{f:List Str}{p:Str}(h:p∈f):cw f p=f:=by
 unfold cw;rw[if_pos (List.any_eq_true.mpr ⟨p,h,by simp⟩)]
theorem Qh:∀{g f:List Str} {y:Str},y∈f→y∈g.foldl cw f
 |[],_,_,h=>h
 |_::r,_,_,h=>Qh (g:=r) (WV h)
theorem G5:∀{g f:List Str} {y:Str},y∈g→y∈g.foldl cw f
 |a::r,f,y,h=>by
  rcases List.mem_cons.mp h with rfl|h
  ·exact Qh (g:=r) WZ
  ·exact G5 (g:=r) h
theorem step_same:∀{g g':List Str},(∀f,g.foldl cw f=g'.foldl cw f)→(∀y,y∈g↔y∈g')→∀f,(us.foldl (f8 x) g).foldl cw f=(us.foldl (gL x) g').foldl cw f:=by
 induction us with
 |nil=>exact fun h zz=>h
 |cons kms r ih=>
  obtain⟨k,ms⟩:=kms
  intro g g' h hm
  refine ih ?_ ?_
  ·intro f
   cases c:ms.any (·==x) with
   |false=>rw[Py c,G6 c];exact h f
   |true=>
    rw[G7 c,List.foldl_append]
    show _=cw (g'.foldl cw f) k
    rw[←h f]
    cases c2:(!(g.any (·==k))) with
    |true=>rw[PC c c2,List.foldl_append];rfl
    |false=>
     rw[Pz c2,WT]
     have:g.any (·==k)=true:=by simpa using c2
     refine aS (List.any_eq_true.mp this) fun a z1=>ay z1 fun ha e=>?_
     clear z1
     have:=eq_of_beq e;subst this
     exact G5 ha
  ·intro y
   cases c:ms.any (·==x) with
   |false=>rw[Py c,G6 c];exact hm y
   |true=>
    rw[G7 c]
    cases c2:(!(g.any (·==k))) with
    |true=>rw[PC c c2];simp[hm y]
    |false=>
     rw[Pz c2]
     have:g.any (·==k)=true:=by simpa using c2
     obtain⟨a,ha,e⟩:=List.any_eq_true.mp this
     have:=eq_of_beq e;subst this
     have:=(hm a).mp ha
     rw[hm y,List.mem_append]
     constructor
     ·exact .inl
     ·rintro(h|h)
      ·exact h
      ·simp at h;subst h;exact this
noncomputable def cj:List Str:=eG++[q "vector"]
theorem xes:cj.all (fun m=>(if nC.any (·==m)=true then iR m else [])==(aM hH m).getD [])=true:=by kernel_rfl
noncomputable def i7:List Str:=[q "U0",q "U1"]
theorem xjt:i7.all (fun m=>(aM hH m).getD []==[])=true:=by kernel_rfl
theorem Rel.nE{ar au cs us x}(R:Rel ar au cs us)(hu:∀k,(aM au k).isSome=true→k∈i7)(hx:x∈cj):iQ cs x=gN ar x:=by
 unfold iQ gN
 rw[R.lk]
 cases e1:aM ar x with
 |some ms=>rfl
 |none=>
  cases e2:aM au x with
  |some ms=>
   have:=List.all_eq_true.mp xjt x (hu x (by rw[e2];rfl))
   show([]:List Str)=(aM hH x).getD []
   exact(eq_of_beq this).symm
  |none=>
   have:=List.all_eq_true.mp xes x hx
   exact eq_of_beq this
theorem Rel.par{ar au cs us x}(R:Rel ar au cs us)(hu:∀k,(aM au k).isSome=true→k∈i7)(hx:x∈cj)(f:List Str):(i4 cs us x).foldl cw f=(gS ar au x).foldl cw f:=by
 unfold i4 gS
 rw[R.nE hu hx,R.u]
 exact step_same (fun zz=>rfl) (fun zz=>Iff.rfl) f
noncomputable def jp(ar au:List (Str×List Str))(x:Str):List Str:=if (cT ar au x).any (fun y=>(aM ar y).isSome)=true then [q "s"] else []
theorem Bi{ar au x one}:∀{l:List Str} {f:List Str},(∀p∈l,p∈gS ar au one)→fU ar au x f→fU ar au x (l.foldl cw f)
 |[],_,_,G=>G
 |a::r,f,h,G=>Bi (l:=r) (fun p hp=>h p (.tail _ hp)) (G.add (HA (h a (.head _))))
theorem TB{ar au x}:∀{n i:Nat} {f:List Str},fU ar au x f→fU ar au x (gF ar au n i f)
 |0,_,_,G=>G
 |n+1,i,f,G=>by
  cases e:f[i]? with
  |none=>rw[jF e];exact G
  |some one=>rw[lX e];exact TB (Bi (fun zz h=>h) G)
theorem WL{ar au}(x:Str):fU ar au x (cT ar au x):=TB .one
theorem WM{ar au}(z:nB ar au)(x:Str):(cT ar au x).length≤11000:=Nat.le_trans (WL x).len (VX z x)
theorem Vv{ar au:List (Str×List Str)}{ys:List Value}{b:Bool}(ib:ys.length=((cT ar au x).filter fun y=>(aM ar y).isSome).length)(c:(!(ys.toArray.size==0))=b):jp ar au x=if b=true then [q "s"] else []:=by
 have eR:=RC (fun y=>(aM ar y).isSome) (cT ar au x)
 rw[←ib] at eR
 have h2:ys.toArray.size=ys.length:=by simp
 rw[h2,eR,Bool.not_not] at c
 unfold jp;rw[c]
section
theorem xiD{wc ov uv:Addr}{ar au:List (Str×List Str)}{tx:Tok}(C:Cx gx aH A ae aE az L (dp+2) (un+6))(S:St ai ae L s l aa)(D:Wd af gx.gw aa wc ov uv ar au)(z:nB ar au)(ret:∀r vs n aw s',St ai ae L s' l ((r,listOf vs n)::(aw++aa))→StrsAre vs.toList (jp ar au x)→R (.ok (.ret (.ref r))) s'):
  codeAny (model af gx.gw) A (.call (.ref 1512) ⟨[.ref wc,.str x tx],[]⟩) R s:=by
 refine xbV C S (fun g1 L1 s oc fH C S=>bo ?_)
 intro Kz Ez
 have hz:=z
 refine ec ?_
 intro Kz
 refine wpAny_Return_some<|IfExp_<|wpAny_isTrue_Compare1<|Au (cl:=[(q "world",L1+1)]) (by kernel_rfl) (lb (by kernel_rfl)) (namesOk (by kernel_rfl)) ?_ (gz:=rfl)
 refine aY C S (vi _)<|spliced_more ?_
 exists jI S vX mH fH<|aU S ah ?_
 refine bh C S<|Az C S D.up z (fun r1 rv rn re s S kY=>?_)
 have gr:=bX (cG kY)
 have H3:=WM z x
 have dw:rv.size≤sizeLine:=by rw[sizeLine_eq];exact xfb gr H3
 refine dg C.hh S mH (fun Ix oi s S hO W=>?_)
 refine AL (b:=L1) (e:=Ix) (k:=(fun i ys ag=>ag=((r1,listOf rv rn)::(re++((L1+1,oc)::aa)):List (Addr×Obj))∧StrsAre ys (((cT ar au x).take i).filter fun y=>(aM ar y).isSome))) (pt rfl W S hO dw ⟨rfl,.nil⟩ (fun zz zz zz hJ=>by obtain⟨rfl,_⟩:=hJ;exact mH) (fun i v s lc ys k D1 Cn oL ag it EE hi hv hJ hL jx lI S=>?_) (fun D1 ys k ag s hJ S=>?_))
 ·obtain⟨rfl,dh⟩:=hJ
  refine aP (eW kY (i:=i) (by simpa using hv)) fun y ty z1=>ay z1 fun z2 hy=>?_
  clear z1
  subst z2
  refine mf S rfl (fun s S=>?_) (hk:=rfl) (hl:=(by kernel_rfl))
  refine wpAny_tests_one<|wpAny_isTrue_Compare1<|lj S rfl ah ?_ (hk:=rfl) (hl:=(by kernel_rfl))
  refine Subscript_ ?_
  exists uz (c:=L1+1) S (by kernel_rfl) (ch (mA mH)) fH ?_ (hk:=rfl) (hl:=(by kernel_rfl))
  exists bE S (fun bp s S=>?_)
  refine i6 S D.up.app.up.up.up.up.d AJ (fun v s hp S=>?_)
  subst hp
  refine nj S D.up.app.up.up.up.up.o (fun s S=>?_)
  exists bV (fun c0=>?_) (fun c0=>?_)
  ·refine lj S rfl ah ?_ (hk:=rfl) (hl:=(by kernel_rfl))
   exact eK (bW S hL rfl (by rw[RD hy,if_pos c0];exact mh dh (.cons _ _ .nil)))
  ·exact eK (bW S hL rfl (by rw[RD hy,if_neg (by rw[c0];decide),List.append_nil];exact dh))
 obtain⟨rfl,dh⟩:=hJ
 rw[List.take_of_length_le (by exact fK gr)] at dh
 have ib:=cG dh
 have eR:=RC (fun y=>(aM ar y).isSome) (cT ar au x)
 exists List_ ?_
 refine cF S aG (fun x1 s S eA=>?_)
 refine xhL (by have:=C.hu;exact xfa this) S (mT mH) mH ?_
 replace S:=St.drop S
 exists bV (fun c0=>?_) (fun c0=>?_)
 ·exists List_<|cz S (fun bO s S=>?_)
  refine dm S aG (fun x3 s S fj=>aT S (fun S=>?_))
  have cV:jp ar au x=[q "s"]:=Vv ib c0
  rw[cV] at ret
  exact ret x3 _ _ ((D1,_)::(r1,_)::(re++[(L1+1,oc)])) s (by simpa using S) (.cons _ _ .nil)
 ·exists List_ ?_
  refine cF S aG (fun x2 s S dE=>aT S (fun S=>?_))
  have cV:jp ar au x=[]:=Vv ib c0
  rw[cV] at ret
  exact ret x2 _ _ ((D1,_)::(r1,_)::(re++[(L1+1,oc)])) s (by simpa using S) .nil
end
structure iM(ar au:List (Str×List Str)):Prop where
 uk:∀k,(aM au k).isSome=true→k∈i7
 ok:∀p∈ar,∀y∈p.2,y∈cj
 uu:∀k∈au.map (·.1),k∈cj
theorem Yp:hH.all (fun p=>p.2.all fun y=>cj.any (·==y))=true:=by kernel_rfl
theorem Jq{l:List Str}(h:l.any (·==y)=true):y∈l:=by
 obtain⟨a,ha,e⟩:=List.any_eq_true.mp h;have:=eq_of_beq e;subst this;exact ha
theorem iM.nE{ar au x p}(I:iM ar au)(h:p∈gN ar x):p∈cj:=by
 unfold gN at h
 cases e:aM ar x with
 |some ms=>rw[e] at h;exact I.ok _ (ii e) _ h
 |none=>
  rw[e] at h
  cases e2:aM hH x with
  |none=>rw[e2] at h;simp at h
  |some ms=>
   rw[e2] at h
   have:=List.all_eq_true.mp Yp _ (ii e2)
   exact Jq (List.all_eq_true.mp this p h)
theorem wf(h:y∈cj):(y==q "ANY")=false:=by
 have:cj.all (fun m=> !(m==q "ANY"))=true:=by kernel_rfl
 simpa using List.all_eq_true.mp this y h
theorem W5{k:Int}{p:Str}(h:(p==q "ANY")=false):(fN k aK p).map (·.1)=cw (aK.map (·.1)) p:=by
 unfold fN cw
 rw[h,Bool.false_or]
 have e:aK.any (·.1==p)=(aK.map (·.1)).any (·==p):=by rw[List.any_map];rfl
 rw[e]
 split<;>simp
theorem RN{k:Int}:∀{ps:List Str} {aK:List (Str×Int)},(∀p∈ps,p∈cj)→(ps.foldl (fN k) aK).map (·.1)=ps.foldl cw (aK.map (·.1))
 |[],_,_=>rfl
 |p::r,aK,h=>by
  show(r.foldl (fN k) (fN k aK p)).map (·.1)=r.foldl cw (cw (aK.map (·.1)) p)
  rw[RN (ps:=r) fun y hy=>h y (.tail _ hy),W5 (wf (h p (.head _)))]
theorem WW{f:List Str}{p:Str}(h:y∈cw f p):y∈f∨y=p:=by
 unfold cw at h
 split at h
 ·exact .inl h
 ·rcases List.mem_append.mp h with h|h
  ·exact .inl h
  ·simp at h;exact .inr h
theorem A6:∀{ps f:List Str} {y:Str},y∈ps.foldl cw f→y∈f∨y∈ps
 |[],_,_,h=> .inl h
 |p::r,f,y,h=>by
  rcases A6 (ps:=r) (f:=cw f p) h with h|h
  ·rcases WW h with h|rfl
   ·exact .inl h
   ·exact .inr (.head _)
  ·exact .inr (.tail _ h)
theorem iM.Hz{ar au x p}(I:iM ar au)(h:p∈gS ar au x):p∈cj:=by
 rcases AS h with h|h
 ·exact I.nE h
 ·exact I.uu _ h
theorem Rel.xg6{ar au cs us x p}(R:Rel ar au cs us)(I:iM ar au)(hx:x∈cj)(h:p∈i4 cs us x):p∈cj:=by
 rcases Hy us _ h with h|h
 ·rw[R.nE I.uk hx] at h;exact I.nE h
 ·rw[R.u] at h;exact I.uu _ h
theorem Qx{ar au cs us}(R:Rel ar au cs us)(I:iM ar au):∀{n i:Nat} {aK:List (Str×Int)},(∀y∈aK.map (·.1),y∈cj)→(gj cs us n i aK).map (·.1)=gF ar au n i (aK.map (·.1))
 |0,_,_,_=>rfl
 |n+1,i,aK,h=>by
  cases e:aK[i]? with
  |none=>rw[pA e,jF (by rw[List.getElem?_map,e];rfl)]
  |some ok=>
   obtain⟨one,k⟩:=ok
   have h1:one∈cj:=h one (List.mem_map.mpr ⟨_,List.mem_of_getElem? e,rfl⟩)
   have hp:∀p∈i4 cs us one,p∈cj:=fun p hp=>R.xg6 I h1 hp
   have hf:=RN (k:=k) (aK:=aK) hp
   rw[AW e,lX (one:=one) (by rw[List.getElem?_map,e];rfl),←R.par I.uk h1,←hf]
   refine Qx R I fun y hy=>?_
   rw[hf] at hy
   rcases A6 hy with hy|hy
   ·exact h y hy
   ·exact hp y hy
theorem xeu{ar au x}:∀{n m i:Nat} {f:List Str},fU ar au x f→(gI ar au x).length≤n+i→(gI ar au x).length≤m+i→gF ar au n i f=gF ar au m i f:=by
 intro n
 induction n with
 |zero=>
  intro m i f G h1 h2
  have:=G.len
  rw[jF (List.getElem?_eq_none (by exact Ai h1 this)),jF (List.getElem?_eq_none (by exact Ai h1 this))]
 |succ n ih=>
  intro m i f G h1 h2
  cases e:f[i]? with
  |none=>rw[jF e,jF e]
  |some one=>
   have hl:=(List.getElem?_eq_some_iff.mp e).1
   have:=G.len
   obtain⟨m',rfl⟩:∃m',m=m'+1:=⟨m- 1,by exact T8 h2 hl this⟩
   rw[lX e,lX e]
   exact ih (Bi (fun zz h=>h) G) (by exact Ah h1) (by exact Ah h2)
theorem Yw{cs us x}:∀{n m i:Nat} {aK:List (Str×Int)},Good cs us x aK→(univ cs us x).length≤n+i→(univ cs us x).length≤m+i→gj cs us n i aK=gj cs us m i aK:=by
 intro n
 induction n with
 |zero=>
  intro m i f G h1 h2
  have:=G.len
  rw[pA (List.getElem?_eq_none (by exact Ai h1 this)),pA (List.getElem?_eq_none (by exact Ai h1 this))]
 |succ n ih=>
  intro m i f G h1 h2
  cases e:f[i]? with
  |none=>rw[pA e,pA e]
  |some ok=>
   obtain⟨one,k⟩:=ok
   have hl:=(List.getElem?_eq_some_iff.mp e).1
   have:=G.len
   obtain⟨m',rfl⟩:∃m',m=m'+1:=⟨m- 1,by exact T8 h2 hl this⟩
   rw[AW e,AW e]
   exact ih (Good.fold _ _ G fun p hp=>Gk hp) (by exact Ah h1) (by exact Ah h2)
theorem GA{ar au cs us x}(R:Rel ar au cs us)(I:iM ar au)(hx:x∈cj):(jJ cs us x).map (·.1)=cT ar au x:=by
 unfold jJ cT
 rw[Yw (m:=(univ cs us x).length+(gI ar au x).length) Good.one (by exact OF) (by exact xfe),Qx R I (by simpa using hx)]
 show gF ar au _ 0 [x]=_
 exact xeu (x:=x) fU.one (by exact xfc) (by exact OF)
theorem WU{t:List Str}{p:Str}:∃t',cw (x::t) p=x::t':=by
 unfold cw;split
 ·exact⟨_,rfl⟩
 ·exact⟨_,rfl⟩
theorem RK:∀{ps t:List Str},∃t',ps.foldl cw (x::t)=x::t'
 |[],t=>⟨t,rfl⟩
 |p::r,t=>by
  obtain⟨t',e⟩:=WU (x:=x) (t:=t) (p:=p)
  show∃t',r.foldl cw (cw (x::t) p)=x::t'
  rw[e];exact RK (ps:=r)
theorem BQ{ar au}:∀{n i:Nat} {t:List Str},∃t',gF ar au n i (x::t)=x::t'
 |0,_,t=>⟨t,rfl⟩
 |n+1,i,t=>by
  cases e:(x::t)[i]? with
  |none=>exact⟨t,jF e⟩
  |some one=>
   rw[lX e]
   obtain⟨t',e'⟩:=RK (x:=x) (ps:=gS ar au one) (t:=t)
   rw[e'];exact BQ
theorem Hw{α:Type}{p:α→Bool}:∀{l:List α},(l.find? p).isSome=l.any p
 |[]=>rfl
 |a::r=>by
  rw[List.find?_cons,List.any_cons]
  cases h:p a with
  |true=>rfl
  |false=>simpa using Hw (l:=r)
theorem Hm{ar au cs us a b}(R:Rel ar au cs us)(I:iM ar au)(ha:a∈cj)(hb:(b==q "ANY")=false):(gq cs us a b).isSome=(cT ar au a).any (·==b):=by
 have h:=GA R I ha
 obtain⟨t',e⟩:∃t',cT ar au a=a::t':=BQ
 rw[e] at h ⊢
 unfold gq dn
 cases hr:jJ cs us a with
 |nil=>rw[hr] at h;cases h
 |cons r0 aJ=>
  rw[hr] at h
  rw[List.map_cons] at h
  injection h with h1 h2
  rw[List.any_cons]
  cases c:a==b with
  |true=>rw[if_pos rfl];rfl
  |false=>
   rw[if_neg (by decide),Bool.false_or,Option.isSome_map,Hw,List.cons_append,List.tail_cons,List.any_append,←h2,List.any_map]
   have:(q "ANY"==b)=false:=by rw[Bool.beq_comm];exact hb
   simp only[List.any_cons,List.any_nil,Bool.or_false,this]
   rfl
theorem xji(m:Str):qx m=tU m:=by unfold qx tU;rw[empty_app]
theorem VO(m:Str):m7 m=tO m:=by unfold m7 tO;rw[empty_app]
theorem xjh(m nm:Str):qw m nm=tC m nm:=by unfold qw tC;rw[empty_app]
theorem oR{m:Str}(h:m∈eG):m∈cj:=List.mem_append_left _ h
theorem Z6{ar au cs us nm m}(R:Rel ar au cs us)(I:iM ar au)(hn:nm∈eG)(hm:m∈eG):iB cs us nm m=iS ar au true nm m:=by
 have e:(nm==m)=(m==nm):=Bool.beq_comm
 unfold iB iS
 rw[R.known hm,Hm R I (oR hn) (wf (oR hm)),xji,VO,e]
 rfl
theorem ZZ{ar au cs us nm m}(R:Rel ar au cs us)(I:iM ar au)(hn:nm∈eG)(hm:m∈eG):gO cs us nm m=iS ar au false nm m:=by
 unfold gO iS
 rw[R.known hm,Hm R I (oR hm) (wf (oR hn)),xjh,VO]
 rfl
theorem Hv{α β:Type}{f g:α→Option β}:∀{l:List α},(∀a∈l,f a=g a)→l.findSome? f=l.findSome? g
 |[],_=>rfl
 |a::r,h=>by
  rw[List.findSome?_cons,List.findSome?_cons,h a (.head _),Hv (l:=r) fun x hx=>h x (.tail _ hx)]
theorem xas{ar au cs us bu nm ms}(R:Rel ar au cs us)(I:iM ar au)(hn:nm∈eG)(hm:∀m∈ms,m∈eG):pH ar au bu nm ms=(kN cs us bu nm ms).getD (q ""):=by
 unfold pH kN
 cases bu with
 |true=>rw[if_pos rfl,Hv fun m h=>Z6 R I hn (hm m h)]
 |false=>rw[if_neg (by decide),Hv fun m h=>ZZ R I hn (hm m h)]
theorem k8{β:Type}{a:Str}{v:β}{r:List (Str×β)}:aM ((a,v)::r) x=if a=x then some v else aM r x:=by
 unfold aM
 rw[List.find?_cons]
 by_cases h:a=x
 ·simp[h]
 ·simp[h]
theorem xec{β:Type}{v:β}{cs:List (Str×β)}:aM (cs.map fun kv=>if kv.1=x then (kv.1,v) else kv) y=if x=y then (aM cs x).map (fun zz=>v) else aM cs y:=by
 induction cs with
 |nil=>simp[aM]
 |cons ab r ih=>
  obtain⟨a,b⟩:=ab
  rw[List.map_cons]
  by_cases h:a=x
  ·subst h
   simp only[if_true]
   rw[k8,k8,k8,ih]
   by_cases h2:a=y<;>simp[h2]
  ·simp only[h,if_false]
   rw[k8,k8,k8,ih]
   by_cases h2:a=y
   ·subst h2;simp[Ne.symm h]
   ·simp[h2,h]
theorem SN{β:Type}:∀{cs:List (Str×β)},cs.any (fun kv=>kv.1=x)=(aM cs x).isSome
 |[]=>rfl
 |(a,b)::r=>by
  rw[List.any_cons,k8,SN (cs:=r)]
  by_cases h:a=x<;>simp[h]
theorem SO{β:Type}{v:β}:∀{cs:List (Str×β)},aM (cs++[(x,v)]) y=match aM cs y with|some b=>some b|none=>if x=y then some v else none
 |[]=>by show aM [(x,v)] y=_;rw[k8];rfl
 |(a,b)::r=>by
  rw[List.cons_append,k8,k8,SO (cs:=r)]
  by_cases h:a=y<;>simp[h]
set_option tactic.hygienic true in
theorem oE {β:Type} {cs:List (Str×β)} {v:β}:aM (bT cs x v) y=if x=y then some v else aM cs y:=by
 unfold bT
 have hn:=SN (cs:=cs) (x:=x)
 split
 ·rename_i h
  rw[xec]
  rw[hn] at h
  by_cases e:x=y
  ·simp only[e,if_true]
   subst e
   obtain⟨b,hb⟩:=Option.isSome_iff_exists.mp h
   rw[hb];rfl
  ·simp[e]
 ·rename_i h
  rw[hn] at h
  rw[SO]
  by_cases e:x=y
  ·subst e
   have:aM cs x=none:=by simpa using h
   rw[this]
  ·simp only[e,if_false]
   cases aM cs y<;>rfl
theorem Rel.ng{ar au cs us nm ms}(R:Rel ar au cs us)(hn:aM au nm=none):Rel (bT ar nm ms) au (bT cs nm ⟨false,ms⟩) us:=
 ⟨R.u,fun x=>by
  rw[oE,oE,R.lk]
  by_cases e:nm=x<;>simp[e],fun x h=>by
  rw[oE] at h
  by_cases e:nm=x
  ·subst e;exact hn
  ·rw[if_neg e] at h;exact R.dj x h⟩
theorem Rel.uf{ar au cs us nm ms}(R:Rel ar au cs us)(hn:aM ar nm=none):Rel ar (bT au nm ms) (bT cs nm ⟨true,[]⟩) (bT us nm ms):=
 ⟨by rw[R.u],fun x=>by
  rw[oE,oE,R.lk]
  by_cases e:nm=x
  ·subst e;rw[hn];simp
  ·simp[e],fun x h=>by
  rw[oE]
  by_cases e:nm=x
  ·subst e;rw[hn] at h;cases h
  ·rw[if_neg e];exact R.dj x h⟩
theorem Rel.nil:Rel [] [] [] []:=⟨rfl,fun zz=>rfl,fun zz h=>by cases h⟩
noncomputable def eB:List Str:=[q "C0",q "C1",q "C2",q "U0",q "U1",q "Zz"]
theorem xaj:eB.all (fun m=>(aM hH m).getD []==[])=true:=by kernel_rfl
theorem xak:(eB++[q "ANY"]).all (fun m=> !(nI.any (·==m)))=true:=by kernel_rfl
theorem xal:eB.all (fun m=>eG.any (·==m))=true:=by kernel_rfl
theorem xjs:i7.all (fun m=>eB.any (·==m))=true:=by kernel_rfl
structure fF(ar au:List (Str×List Str)):Prop where
 ok:∀p∈ar,∀y∈p.2,y∈eB
 uu:∀k∈au.map (·.1),k∈i7
theorem Hj(h:y∈eB):y∈eG:=Jq (List.all_eq_true.mp xal y h)
theorem PN(h:y∈i7):y∈eB:=Jq (List.all_eq_true.mp xjs y h)
theorem fF.iw{ar au}(I:fF ar au):iM ar au:=
 ⟨fun k h=>by
  obtain⟨ms,e⟩:=Option.isSome_iff_exists.mp h
  exact I.uu k (List.mem_map.mpr ⟨_,ii e,rfl⟩),fun p hp y hy=>oR (Hj (I.ok p hp y hy)),fun k h=>oR (Hj (PN (I.uu k h)))⟩
theorem fF.nE{ar au x p}(I:fF ar au)(hx:x∈eB)(h:p∈gN ar x):p∈eB:=by
 unfold gN at h
 cases e:aM ar x with
 |some ms=>rw[e] at h;exact I.ok _ (ii e) _ h
 |none=>
  rw[e] at h
  have:=eq_of_beq (List.all_eq_true.mp xaj x hx)
  change p∈(aM hH x).getD [] at h
  rw[this] at h;simp at h
theorem fF.Hz{ar au x p}(I:fF ar au)(hx:x∈eB)(h:p∈gS ar au x):p∈eB:=by
 rcases AS h with h|h
 ·exact I.nE hx h
 ·exact PN (I.uu _ h)
theorem fF.nb{ar au}(I:fF ar au):∀{n i:Nat} {f:List Str},(∀y∈f,y∈eB)→∀y∈gF ar au n i f,y∈eB
 |0,_,_,h=>h
 |n+1,i,f,h=>by
  cases e:f[i]? with
  |none=>rw[jF e];exact h
  |some one=>
   rw[lX e]
   refine I.nb fun y hy=>?_
   rcases A6 hy with hy|hy
   ·exact h y hy
   ·exact I.Hz (h one (List.mem_of_getElem? e)) hy
theorem fF.above{ar au x}(I:fF ar au)(hx:x∈eB):∀y∈cT ar au x,y∈eB:=I.nb (by simpa using hx)
theorem Ro{ar au cs us m}(R:Rel ar au cs us)(I:fF ar au)(hm:m∈eB):DK cs us m:=by
 intro _ p hp
 right
 have h:p.1∈eB++[q "ANY"]:=by
  unfold dn at hp
  have hp:=List.mem_of_mem_tail hp
  rcases List.mem_append.mp hp with hp|hp
  ·refine List.mem_append_left _ (I.above hm _ ?_)
   rw[←GA R I.iw (oR (Hj hm))]
   exact List.mem_map.mpr ⟨_,hp,rfl⟩
  ·simp at hp;subst hp;simp
 simpa using List.all_eq_true.mp xak _ h
set_option tactic.hygienic true in
theorem oU {β:Type} {cs:List (Str×β)} {v:β} {p:Str×β} (h:p∈bT cs x v):p∈cs∨p=(x,v):=by
 unfold bT at h
 split at h
 ·refine aS (List.mem_map.mp h) fun a z1=>ay z1 fun ha e=>?_
  clear z1
  split at e
  ·rename_i e2;subst e;exact .inr (by rw[e2])
  ·subst e;exact .inl ha
 ·rcases List.mem_append.mp h with h|h
  ·exact .inl h
  ·simp at h;exact .inr h
theorem fF.ng{ar au nm ms}(I:fF ar au)(h:∀m∈ms,m∈eB):fF (bT ar nm ms) au:=
 ⟨fun p hp y hy=>by
  rcases oU hp with hp|rfl
  ·exact I.ok p hp y hy
  ·exact h y hy,I.uu⟩
theorem fF.uf{ar au nm ms}(I:fF ar au)(h:nm∈i7):fF ar (bT au nm ms):=
 ⟨I.ok,fun k hk=>by
  refine aS (List.mem_map.mp hk) fun p z1=>ay z1 fun hp z2=>?_
  clear z1
  subst z2
  rcases oU hp with hp|rfl
  ·exact I.uu _ (List.mem_map.mpr ⟨_,hp,rfl⟩)
  ·exact h⟩
theorem fF.nil:fF [] []:=⟨fun zz h=>by simp at h,fun zz h=>by simp at h⟩
structure Sz(n:Nat)(ar au:List (Str×List Str))(cs:List (Str×CA))(us:List (Str×List Str)):Prop where
 o:ar.length≤n
 u:au.length≤n
 c:cs.length≤n
 s:us.length≤n
 om:∀p∈ar,p.2.length≤9
 um:∀p∈au,p.2.length≤9
 cm:∀p∈cs,p.2.sup.length≤9
 sm:∀p∈us,p.2.length≤9
theorem Sz.nil:Sz 0 [] [] [] []:=by constructor<;>simp
theorem Sz.small{n ar au cs us}(z:Sz n ar au cs us)(h:n≤100):Small cs us:=
 ⟨Nat.le_trans z.c h,fun p hp=>Nat.le_trans (z.cm p hp) (by decide),Nat.le_trans z.s h,fun p hp=>Nat.le_trans (z.sm p hp) (by decide)⟩
theorem Sz.GC{n ar au cs us}(z:Sz n ar au cs us)(h:n≤100):nB ar au:=
 ⟨Nat.le_trans z.o h,Nat.le_trans z.u h,fun p hp=>Nat.le_trans (z.om p hp) (by decide)⟩
theorem Sz.ng{n ar au cs us nm ms}(z:Sz n ar au cs us)(h:ms.length≤9):Sz (n+1) (bT ar nm ms) au (bT cs nm ⟨false,ms⟩) us:=
 ⟨Nat.le_trans (Ar _ _ _) (Nat.succ_le_succ z.o),Nat.le_succ_of_le z.u,Nat.le_trans (Ar _ _ _) (Nat.succ_le_succ z.c),Nat.le_succ_of_le z.s,
 fun p hp=>by rcases oU hp with hp|rfl;exact z.om p hp;exact h,z.um,
 fun p hp=>by rcases oU hp with hp|rfl;exact z.cm p hp;exact h,z.sm⟩
theorem Sz.uf{n ar au cs us nm ms}(z:Sz n ar au cs us)(h:ms.length≤9):Sz (n+1) ar (bT au nm ms) (bT cs nm ⟨true,[]⟩) (bT us nm ms):=
 ⟨Nat.le_succ_of_le z.o,Nat.le_trans (Ar _ _ _) (Nat.succ_le_succ z.u),Nat.le_trans (Ar _ _ _) (Nat.succ_le_succ z.c),Nat.le_trans (Ar _ _ _) (Nat.succ_le_succ z.s),
 z.om,fun p hp=>by rcases oU hp with hp|rfl;exact z.um p hp;exact h,
 fun p hp=>by rcases oU hp with hp|rfl;exact z.cm p hp;exact Nat.zero_le _,fun p hp=>by rcases oU hp with hp|rfl;exact z.sm p hp;exact h⟩
theorem Sz.le{n m ar au cs us}(z:Sz n ar au cs us)(h:n≤m):Sz m ar au cs us:=
 ⟨Nat.le_trans z.o h,Nat.le_trans z.u h,Nat.le_trans z.c h,Nat.le_trans z.s h,z.om,z.um,z.cm,z.sm⟩
theorem GB{ar au cs us x}(R:Rel ar au cs us)(I:iM ar au)(hx:x∈cj):∃k aJ,jJ cs us x=(x,k)::aJ∧cT ar au x=x::aJ.map (·.1):=by
 have h:=GA R I hx
 obtain⟨t',e⟩:∃t',cT ar au x=x::t':=BQ
 rw[e] at h ⊢
 cases hr:jJ cs us x with
 |nil=>rw[hr] at h;cases h
 |cons r0 aJ=>
  rw[hr,List.map_cons] at h
  injection h with h1 h2
  obtain⟨a,k⟩:=r0
  dsimp only at h1;subst h1
  exact⟨k,aJ,rfl,by rw[h2]⟩
theorem Rel.fO{ar au cs us}(R:Rel ar au cs us)(p:Str×Int):fO cs p=(aM ar p.1).isSome:=by
 unfold Mine.fO
 rw[R.lk]
 cases aM ar p.1 with
 |some _=>rfl
 |none=>by_cases h:(aM au p.1).isSome=true<;>simp[h]
theorem xik{ar au cs us x}(R:Rel ar au cs us)(I:iM ar au)(hx:x∈cj)(ha:aM ar (q "ANY")=none):lm cs us x=(cT ar au x).any (fun y=>(aM ar y).isSome):=by
 refine aP (GB R I hx) fun k aJ z1=>ay z1 fun e1 e2=>?_
 clear z1
 have hh:fO cs=fun p=>(aM ar p.1).isSome:=funext R.fO
 unfold lm dn
 rw[hh]
 rw[e1,e2,List.cons_append,List.tail_cons]
 simp only[List.any_cons,List.any_append,List.any_nil,ha,List.any_map,Option.isSome_none,Bool.or_false]
 rfl
theorem ints_get{vs:List Value}{ns:List Int}(H:IntsAre vs ns):∀{i:Nat} {v:Value},vs[i]?=some v→∃k t,v= .int k t:=by
 induction H with
 |nil=>intro i v h;exact absurd h (by simp)
 |cons k t r ih=>
  intro i v h
  cases i with
  |zero=>exact⟨_,_,(Option.some.inj h).symm⟩
  |succ i=>exact ih h
theorem TL{a:Int}:Builtin.divisionGoesByPylong a 500=false:=PyProof.noPylong_of_log2 (by decide+kernel)
theorem Vu{lo hi st:Option Int}(h:v∈(slicePick ba lo hi st).toList):v∈ba.toList:=by
 unfold slicePick at h
 rw[List.toList_toArray] at h
 refine aS (List.mem_filterMap.mp h) fun k z1=>ay z1 fun z2 hk=>?_
 clear z1
 exact Array.mem_toList_iff.mpr (Array.mem_of_getElem? hk)
theorem St.Rq{p:Addr×Obj}(S:St ai ae L s l (p::aa)):St ai ae L s l aa:=St.drop S
def uT(l:List Value):Prop:=∀v∈l,∃k t,v= .int k t
theorem Qm:∀{l:List Value},uT l→∃ns,IntsAre l ns
 |[],_=>⟨[],.nil⟩
 |v::r,h=>by
  refine aP (h v (.head _)) fun k t z1=>?_
  subst z1
  obtain⟨ns,hn⟩:=Qm (l:=r) fun x hx=>h x (.tail _ hx)
  exact⟨k::ns,.cons _ _ hn⟩
theorem xdY{l:List Value}{ns:List Int}(h:IntsAre l ns):uT l:=fun v hv=>by
 obtain⟨i,hi⟩:=List.mem_iff_getElem?.mp hv
 exact ints_get h hi
section
theorem xiA{sa:Addr}{ns:List Int}(C:Cx gx aH A ae aE az L (dp+1) (un+3))(S:St ai ae L s l aa)(hb:gx.gh.IsList sa ba)(hi:IntsAre ba.toList ns)(hz:ba.size≤100)(ret:∀r vs n ns aw s',St ai ae L s' l ((r,listOf vs n)::(aw++aa))→IntsAre vs.toList ns→vs.size≤10000→R (.ok (.ret (.ref r))) s'):
  codeAny (model af gx.gw) A (.call (.ref 1460) ⟨[.ref sa],[]⟩) R s:=by
 refine xbO C S (fun g1 L1 s C S=>bo ?_)
 intro Kz Ez
 refine ec ?_
 intro Kz
 refine aX ?_
 exists List_ ?_
 refine cF S aG (fun x1 s S eA=>aW S (fun s S=>ec ?_))
 intro Kz
 refine cD<|xhS ?_
 exists ap S (am ah) ?_
 refine evalPart_none_step<|evalPart_some_step ?_
 exists bf S (fun bO s S=>?_)
 refine PY (a:=sa) (b:=ba) (pq rfl S (hb.at (fun o e=>S.F.keep _ o (C.B.stays _ o e))) (by rw[sizeLine_eq];exact xfk hz) .none (.int _ _) (fun sl s S=>?_))
 have cV:=slicePick_size_le ba none (some 50) none
 refine dg C.hh S mH (fun Ix oi s S hO W=>?_)
 refine dF W S hO (fun i l' ag=>(l'.lookup (q "script")=some (.ref sa)∧l'.lookup (q "pips")=some (.ref x1))∧∃pv pn aw,ag=((sl,listOf (slicePick ba none (some 50) none) 0)::(x1,listOf pv pn)::(aw++aa):List (Addr×Obj))∧uT pv.toList∧pv.size≤i*12) ⟨⟨(am ah),ah⟩,_,_,[],rfl,(fun v hv=>by simp at hv),Nat.le_refl _⟩ (fun zz zz zz hJ=>by obtain⟨_,_,_,_,rfl,_⟩:=hJ;exact mH) (fun i vv s l' ag it kW hv hJ S=>?_) (fun s l' ag hJ S=>?_)
 ·intro Kz Ez
  refine ay hJ fun z1 z2=>ay z1 fun hS hP=>cQ z2 fun pv pn aw z3=>aO z3 fun z4 gD bq=>?_
  clear hJ z1 z2 z3
  refine xS1 z4 S fun S=>?_
  refine aP (xdY hi vv (Vu (Array.mem_toList_iff.mpr (Array.mem_of_getElem? hv)))) fun z tz z1=>?_
  subst z1
  exists dG S ?_
  intro lz dz S
  refine eu S (fun s S=>ec ?_)
  intro Kz
  refine aX<|IfExp_<|wpAny_isTrue_Compare1 ?_
  exists ap S ah<|bf S (fun cu s S=>PyProof.Rows.ge_int<|bV (fun c0=>?_) (fun c0=>?_))
  ·exists ap S ah ?_
   refine aW S (fun s S=>ec ?_)
   intro Kz
   refine cD<|fS C S (jf _) ja<|spliced_more ?_
   exists bf S (fun fe s S=>?_)
   refine spliced_none<|jm S (fun rg ur vr s S lr=>jl C.hh S mH (by decide) (by decide) (fun Iy oj s S hI Wr=>dF Wr S hI (fun j l' ag=>((l'.lookup (q "script")=some (.ref sa)∧l'.lookup (q "pips")=some (.ref x1))∧∃y ty,l'.lookup (q "size_now")=some (.int y ty))∧∃ro pv pn,ag=(((rg,ro)::it::((sl,listOf (slicePick ba none (some 50) none) 0)::(x1,listOf pv pn)::(aw++aa):List (Addr×Obj))):List (Addr×Obj))∧uT pv.toList∧pv.size≤i*12+j) ⟨⟨⟨(aB hS),(aB hP)⟩,_,_,ah⟩,_,_,_,rfl,gD,bq⟩ (fun zz zz zz hJ=>trivial) (fun j vj s l' ag i0 hj IR hJ S=>?_) (fun s l' ag hJ S=>?_)))
   ·intro Kz Ez
    refine ay hJ fun z1 z2=>ay z1 fun z3 z4=>ay z3 fun hS hP=>aP z4 fun y ty hy=>cQ z2 fun ro pv pn z5=>aO z5 fun z6 gD bq=>?_
    clear hJ z1 z3 z4 z2 z5
    refine xS1 z6 S fun S=>?_
    obtain⟨tj,rfl⟩:=IR
    have vF:j<12:=hj
    have II:i<100:=by exact Ud hz cV kW
    have dw:pv.size≤sizeLine:=by rw[sizeLine_eq];exact Uc bq vF II
    exists dG S ?_
    intro lz dz S
    refine eu S (fun s S=>ec ?_)
    intro Kz
    refine wpAny_Expr<|methodCall_KW ?_
    exists ap S (am hP) ?_
    refine ft S (ch mH) ?_
    exists wpAny_BinOp<|ap S (am hy)<|bf S (fun ej s S=>?_)
    refine Pe S (by decide) (fun tm s S=>fb S (Up.tail (Up.tail (Up.tail (Up.tail Up.head)))) dw (fun s S=>ec ?_))
    intro Kz
    refine aX ?_
    exists wpAny_BinOp<|ap S (am hy)<|bf S (fun ed s S=>?_)
    refine UV S (by decide) TL (fun td s S=>aW S (fun s S=>ec ?_))
    intro Kz
    refine br ?_
    exists ap S ah<|bf S (fun mj s S=>PyProof.Rows.eq_int<|bV (fun c1=>?_) (fun c1=>?_))
    ·refine ec ?_
     intro Kz
     refine wpAny_Break ?_
     replace S:=St.Rq S
     replace S:=St.drop S
     refine wpAny_execs_nil ?_
     refine aN (aR S (bC (aB hS) (aB hP)) (eK (aR rfl (fun v hv=>by rw[Array.toList_push] at hv;rcases List.mem_append.mp hv with h|h;exact gD v h;simp at h;exact⟨_,_,h⟩) (by rw[Array.size_push];exact Ub bq vF))))
    ·refine wpAny_execs_nil<|wpAny_execs_nil ?_
     refine aN (aR S (bC (bC (aB hS) (aB hP)) (aN ah)) (eK (aR rfl (fun v hv=>by rw[Array.toList_push] at hv;rcases List.mem_append.mp hv with h|h;exact gD v h;simp at h;exact⟨_,_,h⟩) (by rw[Array.size_push];exact Ua bq))))
   refine ay hJ fun z1 z2=>ay z1 fun z3 z4=>ay z3 fun hS hP=>aP z4 fun y ty hy=>cQ z2 fun ro pv pn z5=>aO z5 fun z6 gD bq=>?_
   clear hJ z1 z3 z4 z2 z5
   refine Wq z6 S fun S=>?_
   replace S:=St.drop S
   refine wpAny_execs_nil<|aN (aR S (bC hS hP) (eK (aR rfl gD (by exact T9 bq))))
  ·exists wpAny_BinOp<|bf S (fun fe s S=>wpAny_BinOp<|bf S (fun ej s S=>ap S ah ?_))
   refine xhJ S (by decide) (fun tu s S=>Pj S (fun ts s S=>aW S (fun s S=>ec ?_)))
   intro Kz
   refine cD<|fS C S (jf _) ja<|spliced_more ?_
   exists bf S (fun ed s S=>?_)
   refine spliced_none<|jm S (fun rg ur vr s S lr=>jl C.hh S mH (by decide) (by decide) (fun Iy oj s S hI Wr=>dF Wr S hI (fun j l' ag=>((l'.lookup (q "script")=some (.ref sa)∧l'.lookup (q "pips")=some (.ref x1))∧∃y ty,l'.lookup (q "size_now")=some (.int y ty))∧∃ro pv pn,ag=(((rg,ro)::it::((sl,listOf (slicePick ba none (some 50) none) 0)::(x1,listOf pv pn)::(aw++aa):List (Addr×Obj))):List (Addr×Obj))∧uT pv.toList∧pv.size≤i*12+j) ⟨⟨⟨(aB hS),(aB hP)⟩,_,_,ah⟩,_,_,_,rfl,gD,bq⟩ (fun zz zz zz hJ=>trivial) (fun j vj s l' ag i0 hj IR hJ S=>?_) (fun s l' ag hJ S=>?_)))
   ·intro Kz Ez
    refine ay hJ fun z1 z2=>ay z1 fun z3 z4=>ay z3 fun hS hP=>aP z4 fun y ty hy=>cQ z2 fun ro pv pn z5=>aO z5 fun z6 gD bq=>?_
    clear hJ z1 z3 z4 z2 z5
    refine xS1 z6 S fun S=>?_
    obtain⟨tj,rfl⟩:=IR
    have vF:j<12:=hj
    have II:i<100:=by exact Ud hz cV kW
    have dw:pv.size≤sizeLine:=by rw[sizeLine_eq];exact Uc bq vF II
    exists dG S ?_
    intro lz dz S
    refine eu S (fun s S=>ec ?_)
    intro Kz
    refine wpAny_Expr<|methodCall_KW ?_
    exists ap S (am hP) ?_
    refine ft S (ch mH) ?_
    exists wpAny_BinOp<|ap S (am hy)<|bf S (fun mj s S=>?_)
    refine Pe S (by decide) (fun tm s S=>fb S (Up.tail (Up.tail (Up.tail (Up.tail Up.head)))) dw (fun s S=>ec ?_))
    intro Kz
    refine aX ?_
    exists wpAny_BinOp<|ap S (am hy)<|bf S (fun ml s S=>?_)
    refine UV S (by decide) TL (fun td s S=>aW S (fun s S=>ec ?_))
    intro Kz
    refine br ?_
    exists ap S ah<|bf S (fun gH s S=>PyProof.Rows.eq_int<|bV (fun c1=>?_) (fun c1=>?_))
    ·refine ec ?_
     intro Kz
     refine wpAny_Break ?_
     replace S:=St.Rq S
     replace S:=St.drop S
     refine wpAny_execs_nil ?_
     refine aN (aR S (bC (aB hS) (aB hP)) (eK (aR rfl (fun v hv=>by rw[Array.toList_push] at hv;rcases List.mem_append.mp hv with h|h;exact gD v h;simp at h;exact⟨_,_,h⟩) (by rw[Array.size_push];exact Ub bq vF))))
    ·refine wpAny_execs_nil<|wpAny_execs_nil ?_
     refine aN (aR S (bC (bC (aB hS) (aB hP)) (aN ah)) (eK (aR rfl (fun v hv=>by rw[Array.toList_push] at hv;rcases List.mem_append.mp hv with h|h;exact gD v h;simp at h;exact⟨_,_,h⟩) (by rw[Array.size_push];exact Ua bq))))
   refine ay hJ fun z1 z2=>ay z1 fun z3 z4=>ay z3 fun hS hP=>aP z4 fun y ty hy=>cQ z2 fun ro pv pn z5=>aO z5 fun z6 gD bq=>?_
   clear hJ z1 z3 z4 z2 z5
   refine Wq z6 S fun S=>?_
   replace S:=St.drop S
   refine wpAny_execs_nil<|aN (aR S (bC hS hP) (eK (aR rfl gD (by exact T9 bq))))
 refine ay hJ fun z1 z2=>ay z1 fun hS hP=>cQ z2 fun pv pn aw z3=>aO z3 fun z4 gD bq=>?_
 clear hJ z1 z2 z3
 refine Wq z4 S fun S=>?_
 have lQ:pv.size≤1200:=by exact xfi hz cV bq
 have hq:=slicePick_size_le pv none (some 140) none
 refine ec ?_
 intro Kz
 refine aX<|Pg ?_
 exists ap S hP ?_
 refine evalPart_none_step<|evalPart_some_step ?_
 exists bf S (fun cu s S=>?_)
 refine PW (b:=pv) (c:=pn) (pq rfl S (mT mH) (by rw[sizeLine_eq];exact xfh lQ) .none (.int _ _) (fun sp s S=>?_))
 refine aW S (fun s S=>ec ?_)
 intro Kz
 refine wpAny_Expr<|methodCall_KW ?_
 exists ap S ah ?_
 refine xhP S mH ?_
 refine xhO S Up.head (by rw[sizeLine_eq];exact xfg lQ hq) (fun s S=>?_)
 refine ec ?_
 intro Kz
 refine wpAny_Return_some ?_
 exists ap S ah ?_
 refine aT S (fun S=>?_)
 obtain⟨ns2,hn2⟩:=Qm (l:=(slicePick pv none (some 140) none).reverse.toList) (fun v hv=>gD v (Vu (by simpa using hv)))
 exact ret sp _ _ ns2 ((sl,_)::(x1,_)::aw) s S hn2 (by rw[Array.size_reverse];exact xff lQ hq)
end
def fV(o:Obj):Prop:=(o.cls= .type "list_iterator"∨o.cls= .type "range_iterator")∧∃vs,o.data= .fields vs∧∀x t,vs[1]?≠some (.str x t)
theorem vZ.vP{ax:Addr}{i:Nat}(h:vZ ax i o):fV o:=⟨.inl h.1,_,h.2,fun x t e=>by simp at e⟩
theorem xhZ{x n:Int}:fV (oX x n):=⟨.inr rfl,_,rfl,fun x t e=>by simp[rawInt] at e⟩
theorem qM(h:∀vs,o.data≠.fields vs):¬fV o:=fun⟨_,vs,e,_⟩=>h vs e
theorem TG{vs:Array Value}(h:o.data= .fields vs)(h2:∃t,vs[1]?=some (.str x t)):¬fV o:=fun⟨_,ws,e,n⟩=>by
 rw[h] at e;injection e with e;subst e
 obtain⟨t,h2⟩:=h2
 exact n _ _ h2
theorem TJ{ps:Array Value}:¬fV (tabObj ps):=fun⟨h,_⟩=>by rcases h with h|h<;>cases h
theorem TF{od:Obj}(h:bG od al):¬fV od:=qM fun vs e=>by
 obtain⟨es,n,rfl,_⟩:=h;cases e
theorem niK{aD:List (Str×Value)}(h:o.IsDictOf (PySem.strKind af w) aD):¬fV o:=qM fun vs e=>by
 obtain⟨es,n,h⟩:=vN h;rw[h] at e;cases e
theorem wh{vs:Array Value}{n:Nat}:¬fV (listOf vs n):=qM fun zz e=>by cases e
theorem TH{K dx:Addr}:¬fV (instObj K dx):=qM fun zz e=>by cases e
theorem TK{vs:Array Value}{n:Nat}:¬fV (bK vs n):=qM fun zz e=>by cases e
theorem Jx{v:Option Value}(h:o.data= .cell v):¬fV o:=qM fun zz e=>by rw[h] at e;cases e
def Kg(aa ag:List (Addr×Obj)):Prop:=∀p∈aa,¬fV p.2→p∈ag
section
theorem Fz.kg(h:Fz W aa a o)(k:Kg aa ag)(n:¬fV o):Fz W ag a o:=⟨k _ h.1 n,h.2⟩
theorem cC.kg{x K:Addr}{al}(h:cC W aa x K al)(k:Kg aa ag):cC W ag x K al:=by
 obtain⟨dx,od,a,b,c⟩:=h
 exact⟨dx,od,a.kg k TH,b.kg k (TF c),c⟩
theorem fy.kg{x:Addr}{ys}(h:fy W aa x ys)(k:Kg aa ag):fy W ag x ys:=by
 obtain⟨vs,n,a,b⟩:=h
 exact⟨vs,n,a.kg k wh,b⟩
theorem kJ.kg{sl b}(h:kJ W aa sl b)(k:Kg aa ag):kJ W ag sl b:=by
 cases b with
 |true=>obtain⟨n,a⟩:=h;exact⟨n,a.kg k wh⟩
 |false=>obtain⟨n,tp,t1,t2,m,a,b⟩:=h;exact⟨n,tp,t1,t2,m,a.kg k wh,b.kg k TK⟩
theorem ClsAt.kg{nm ca v}(h:ClsAt W aa nm ca v)(k:Kg aa ag):ClsAt W ag nm ca v:=by
 obtain⟨c,tk,sl,cl,pr,e,a,b,d⟩:=h
 exact⟨c,tk,sl,cl,pr,e,a.kg k,b.kg k,d.kg k⟩
theorem fW.kg{nm ms v}(h:fW W aa nm ms v)(k:Kg aa ag):fW W ag nm ms v:=by
 obtain⟨u,e,a⟩:=h
 exact⟨u,e,a.kg k⟩
theorem Dc.kg{β:Type}{d:Addr}{P P':Str→β→Value→Prop}{cs:List (Str×β)}(D:Dc af w aa d P cs)(k:Kg aa ag)(hp:∀x b v,P x b v→P' x b v):Dc af w ag d P' cs:=by
 obtain⟨o,aD,a,b,c⟩:=D.ex
 exact⟨⟨o,aD,k _ a (niK b),b,c.mono hp⟩,D.lo⟩
theorem Tab.kg{t dc du cs us}(T:Tab af w W aa t dc du cs us)(k:Kg aa ag):Tab af w W ag t dc du cs us:=
 ⟨T.i.kg k,T.c.kg k fun zz zz zz h=>h.kg k,T.u.kg k fun zz zz zz h=>h.kg k,T.z⟩
theorem Sys.kg{i di gl F b cs us}(Y:Sys af w W aa i di gl F b cs us)(k:Kg aa ag)(hW:∀a∈W,∃o,(a,o)∈ag):Sys af w W ag i di gl F b cs us:=by
 refine cB Y.ex fun od al lim s4 z1=>bB z1 fun m hA hI T=>?_
 clear z1
 refine⟨Y.hi.kg k TH,Y.eZ,⟨od,al,lim,s4,k _ m (TF hA),hA,hI,?_⟩,hW,Y.hF⟩
 cases T with
 |u=>exact .u
 |i a T h1 h2 h3=>exact .i (a.kg k) (T.kg k) h1 h2 h3
theorem dI.kg{i di gl F b cs us}(Y:dI af w W aa i di gl F b cs us)(k:Kg aa ag)(hW:∀a∈W,∃o,(a,o)∈ag):dI af w W ag i di gl F b cs us:=
 ⟨Y.y.kg k hW,Y.w1,Y.w2,let ⟨ps,a,t⟩:=Y.t1;⟨ps,k _ a TJ,t.mem fun zz zz zz m hd hv=>k _ m (TG hd hv)⟩,let ⟨ps,a,t⟩:=Y.t2;⟨ps,k _ a TJ,t.mem fun zz zz zz m hd hv=>k _ m (TG hd hv)⟩⟩
theorem St.pull(S:St ai ae L s l aa){I:Addr}(h:(I,o)∈aa):∃aJ,St ai ae L s l ((I,o)::aJ)∧(∀p∈aa,p.1≠I→p∈aJ)∧∀p∈aJ,p∈aa:=by
 refine aP (List.append_of_mem h) fun pre post z1=>?_
 subst z1
 refine⟨pre++post,S.perm List.perm_middle,fun p hp n=>?_,fun p hp=>?_⟩
 ·rcases List.mem_append.mp hp with hp|hp
  ·exact List.mem_append_left _ hp
  ·rcases List.mem_cons.mp hp with rfl|hp
   ·exact absurd rfl n
   ·exact List.mem_append_right _ hp
 ·rcases List.mem_append.mp hp with hp|hp
  ·exact List.mem_append_left _ hp
  ·exact List.mem_append_right _ (.tail _ hp)
theorem Kg.of(S:St ai ae L s l aa){I:Addr}{oi:Obj}(h:(I,oi)∈aa)(it:fV oi)(k:∀p∈aa,p.1≠I→p∈ag):Kg aa ag:=fun p hp n=>k p hp fun e=>n (by
 have hp:(p.1,p.2)∈aa:=hp
 rw[e] at hp
 rw[S.uniq hp h];exact it)
theorem dI.put{i di gl F b cs us}(S:St ai ae L s l aa)(Y:dI af w W aa i di gl F b cs us){x:Addr}{o':Obj}(hm:(x,o)∈aa)(hW:x∈W)(hF:x∉429::1077::di::F)(hd:∀vs,o.data≠.fields vs)(u:Up x o o' aa ag):dI af w W ag i di gl F b cs us:=by
 have kp:Kp W aa ag:=fun p hp hn=>u.keep hp fun e=>hn (e▸hW)
 simp only[List.mem_cons,not_or] at hF
 refine bB hF fun f1 f2 f3 f4=>?_
 clear hF
 have tc:∀{aI Q ps},dX aa aI Q ps→dX ag aI Q ps:=fun h=>h.mem fun c' oc vs m fC zz=>u.keep m fun e=>hd vs (by
  have e:c'=x:=e
  subst e;rw[←S.uniq m hm];exact fC)
 refine cB Y.y.ex fun od al lim s4 z1=>bB z1 fun m hA hI T=>?_
 clear z1
 refine⟨⟨Y.y.hi.mono kp,Y.y.eZ,⟨od,al,lim,s4,u.keep m (Ne.symm f3),hA,hI,?_⟩,fun a ha=>let ⟨o,ho⟩:=Y.y.hW a ha;u.mz (a,o) ho,Y.y.hF⟩,Y.w1,Y.w2,let ⟨ps,a,t⟩:=Y.t1;⟨ps,u.keep a (Ne.symm f1),tc t⟩,let ⟨ps,a,t⟩:=Y.t2;⟨ps,u.keep a (Ne.symm f2),tc t⟩⟩
 cases T with
 |u=>exact .u
 |@i st mt t dc du cs us a T h1 h2 h3=>
  simp only[List.mem_cons,not_or] at f4
  exact .i (a.mono kp) ⟨T.i.mono kp,T.c.mono (fun zz zz zz h=>h.mono kp) fun zz h=>u.keep h (Ne.symm f4.1),T.u.mono (fun zz zz zz h=>h.mono kp) fun zz h=>u.keep h (Ne.symm f4.2.1),T.z⟩ h1 h2 h3
end
structure Ad where
 (L i di gl pl po cr wc ov uv:Addr)
structure Gs where
 (over au:List (Str×List Str))
 cs:List (Str×CA)
 us:List (Str×List Str)
noncomputable def gQ:List Str:=[q "C0",q "C1",q "C2",q "U0",q "U1"]
noncomputable abbrev wdL(a:Ad):List (Str×Addr):=[(q "over",a.ov),(q "unions",a.uv)]
structure Lw(af:Program)(w:World)(W:List Addr)(aa:List (Addr×Obj))(a:Ad)(F:List Addr)(b:Bool)(G:Gs):Prop where
 Y:dI af w W aa a.i a.di a.gl F b G.cs G.us
 pc:∃o,Fz W aa (a.L+1) o∧o.data= .cell (some (.ref a.pl))
 pp:∃vs n ns,(a.pl,listOf vs.toArray n)∈aa∧IntsAre vs ns∧vs.length≤10000
 oc:∃o,Fz W aa (a.L+2) o∧o.data= .cell (some (.ref a.po))
 Aq:fy W aa a.po eG
 uc:∃o v,(a.L+3,o)∈aa∧o.data= .cell v
 cl:fy W aa a.cr gQ
 d:Dc af w aa a.wc (fun _ x v=>v= .ref x) (wdL a)
 dW:a.wc∉W
 o:Dc af w aa a.ov (fW W aa) G.over
 u:Dc af w aa a.uv (fW W aa) G.au
 wr:∀x∈[a.pl,a.L+3,a.ov,a.uv],x∈W∧x∉429::1077::a.di::F
 nd:[a.pl,a.L+3,a.ov,a.uv].Nodup
section
variable {a:Ad} {F:List Addr} {b:Bool} {G:Gs}
theorem Lw.kg(X:Lw af w W aa a F b G)(k:Kg aa ag)(hW:∀a∈W,∃o,(a,o)∈ag):Lw af w W ag a F b G where
 Y:=X.Y.kg k hW
 pc:=let ⟨o,h,e⟩:=X.pc;⟨o,h.kg k (Jx e),e⟩
 pp:=let ⟨vs,n,ns,h,r⟩:=X.pp;⟨vs,n,ns,k _ h wh,r⟩
 oc:=let ⟨o,h,e⟩:=X.oc;⟨o,h.kg k (Jx e),e⟩
 Aq:=X.Aq.kg k
 uc:=let ⟨o,v,h,e⟩:=X.uc;⟨o,v,k _ h (Jx e),e⟩
 cl:=X.cl.kg k
 d:=X.d.kg k fun zz zz zz h=>h
 dW:=X.dW
 o:=X.o.kg k fun zz zz zz h=>h.kg k
 u:=X.u.kg k fun zz zz zz h=>h.kg k
 wr:=X.wr
 nd:=X.nd
theorem Lw.mem(X:Lw af w W aa a F b G)(k:∀p∈aa,p∈ag):Lw af w W ag a F b G:=X.kg (fun p h zz=>k p h) fun a h=>let ⟨o,ho⟩:=X.Y.y.hW a h;⟨o,k _ ho⟩
theorem Lw.up{p:Addr×Obj}(X:Lw af w W aa a F b G):Lw af w W (p::aa) a F b G:=X.mem fun zz h=> .tail _ h
theorem Lw.app{aw:List (Addr×Obj)}(X:Lw af w W aa a F b G):Lw af w W (aw++aa) a F b G:=X.mem fun zz h=>mA h
theorem Lw.less(S:St ai ae L s l aa)(X:Lw af w W aa a F b G){I:Addr}{oi:Obj}(h:Fz W aa I oi)(it:fV oi)(k:∀p∈aa,p.1≠I→p∈ag):Lw af w W ag a F b G:=
 X.kg (Kg.of S h.1 it k) fun x hx=>let ⟨o,ho⟩:=X.Y.y.hW x hx;⟨o,k _ ho fun e=>h.2 (by rw[←show x=I from e];exact hx)⟩
theorem Lw.wd(X:Lw af w W aa a F b G):Wd af w aa a.wc a.ov a.uv G.over G.au:=
 have h:∀x ms v,fW W aa x ms v→iN aa x ms v:=fun x ms v ⟨u,e,vs,n,a,b⟩=>⟨u,vs,n,e,a.1,b⟩
 ⟨X.d,X.o.mono h fun zz m=>m,X.u.mono h fun zz m=>m⟩
theorem Lw.post(X:Lw af w W aa a F b G){W':List Addr}{F':List Addr}{b':Bool}{gR:List (Str×CA)}{eX:List (Str×List Str)}(P:cg af w W aa F a.i a.di a.gl W' ag F' b' gR eX):Lw af w W' ag a F' b' ⟨G.over,G.au,gR,eX⟩:=by
 have fs:=X.Y.iz
 have wr:=X.wr
 have h1:=wr a.pl (by simp)
 have h2:=wr (a.L+3) (by simp)
 have h3:=wr a.ov (by simp)
 have h4:=wr a.uv (by simp)
 refine cQ X.pp fun vs n ns z1=>ay z1 fun p1 p2=>?_
 clear z1
 refine aP X.uc fun uo uv z1=>ay z1 fun q1 q2=>?_
 clear z1
 refine aP X.o.ex fun oo ok z1=>aO z1 fun o1 o2 o3=>?_
 clear z1
 refine aP X.u.ex fun uo' uk z1=>aO z1 fun u1 u2 u3=>?_
 clear z1
 refine aP X.d.ex fun wo wk z1=>aO z1 fun w1 w2 w3=>?_
 clear z1
 have VW:∀x ms v,fW W aa x ms v→fW W' ag x ms v:=fun zz zz zz h=>h.step P.k fs P.g
 refine⟨P.y,let ⟨o,h,e⟩:=X.pc;⟨o,h.step P.k fs P.g,e⟩,⟨vs,n,ns,P.k _ p1 h1.2,p2⟩,let ⟨o,h,e⟩:=X.oc;⟨o,h.step P.k fs P.g,e⟩,X.Aq.step P.k fs P.g,⟨uo,uv,P.k _ q1 h2.2,q2⟩,X.cl.step P.k fs P.g,
  ⟨⟨wo,wk,P.k _ w1 fun m=>X.dW (fs _ m),w2,w3⟩,X.d.lo⟩,fun m=>?_,⟨⟨oo,ok,P.k _ o1 h3.2,o2,o3.mono VW⟩,X.o.lo⟩,⟨⟨uo',uk,P.k _ u1 h4.2,u2,u3.mono VW⟩,X.u.lo⟩,fun x hx=>?_,X.nd⟩
 ·rcases P.g.2 _ m with y|y
  ·exact X.dW y
  ·exact y _ w1 rfl
 ·refine⟨P.g.1 _ (wr x hx).1,fun m=>(wr x hx).2 ?_⟩
  rcases List.mem_cons.mp m with e|m
  ·rw[e];exact .head _
  ·rcases List.mem_cons.mp m with e|m
   ·rw[e];exact .tail _ (.head _)
   ·rcases List.mem_cons.mp m with e|m
    ·rw[e];exact .tail _ (.tail _ (.head _))
    ·rcases P.f x m with y|y
     ·exact .tail _ (.tail _ (.tail _ y))
     ·exfalso
      simp only[List.mem_cons,List.not_mem_nil,or_false] at hx
      rcases hx with rfl|rfl|rfl|rfl
      ·exact y _ p1 rfl
      ·exact y _ q1 rfl
      ·exact y _ o1 rfl
      ·exact y _ u1 rfl
theorem Lw.put(S:St ai ae L s l aa)(X:Lw af w W aa a F b G){x:Addr}{o':Obj}(hx:x∈[a.pl,a.L+3,a.ov,a.uv])(hm:(x,o)∈aa)(hd:∀vs,o.data≠.fields vs)(u:Up x o o' aa ag):dI af w W ag a.i a.di a.gl F b G.cs G.us∧Kp W aa ag:=
 ⟨X.Y.put S hm (X.wr x hx).1 (X.wr x hx).2 hd u,fun p hp hn=>u.keep hp fun e=>hn (e▸(X.wr x hx).1)⟩
end
theorem WY{p:Str}{f:List Str}:∃t,cw f p=f++t:=by
 unfold cw;split
 ·exact⟨[],by simp⟩
 ·exact⟨_,rfl⟩
theorem RL:∀{ps f:List Str},∃t,ps.foldl cw f=f++t
 |[],f=>⟨[],by simp⟩
 |p::r,f=>by
  obtain⟨t,e⟩:=WY (p:=p) (f:=f)
  obtain⟨t2,e2⟩:=RL (ps:=r) (f:=cw f p)
  exact iu (a:=t++t2) (by rw[List.foldl_cons,e2,e,List.append_assoc])
theorem xet{ar au x}:∀{n i:Nat} {f:List Str},fU ar au x f→(gI ar au x).length≤n+i→(∀(j:Nat),j<i→∀(y:Str),f[j]?=some y→∀p∈gS ar au y,p∈f)→
  ∀y∈gF ar au n i f,∀p∈gS ar au y,p∈gF ar au n i f:=by
 intro n
 induction n with
 |zero=>
  intro i f G h hc y hy
  rw[jF (List.getElem?_eq_none (by have:=G.len;exact Ai h this))] at hy ⊢
  obtain⟨j,hj⟩:=List.mem_iff_getElem?.mp hy
  have:=G.len
  exact hc j (by have:=(List.getElem?_eq_some_iff.mp hj).1;omega) y hj
 |succ n ih=>
  intro i f G h hc y hy
  cases e:f[i]? with
  |none=>
   rw[jF e] at hy ⊢
   obtain⟨j,hj⟩:=List.mem_iff_getElem?.mp hy
   have h1:=List.getElem?_eq_none_iff.mp e
   exact hc j (by have:=(List.getElem?_eq_some_iff.mp hj).1;exact OM h1 this) y hj
  |some one=>
   rw[lX e] at hy ⊢
   refine ih (Bi (fun zz h=>h) G) (by exact Ah h) (fun j hj z hz p hp=>?_) y hy
   obtain⟨t,et⟩:=RL (ps:=gS ar au one) (f:=f)
   have hi:=(List.getElem?_eq_some_iff.mp e).1
   rw[et,List.getElem?_append_left (by exact xfm hj hi)] at hz
   rcases Nat.lt_or_ge j i with h1|h1
   ·rw[et];exact List.mem_append_left _ (hc j h1 z hz p hp)
   ·have:j=i:=by exact xfl hj h1
    subst this
    rw[e] at hz;cases hz
    exact G5 hp
theorem Qg{ar au x}:∀y∈cT ar au x,∀p∈gS ar au y,p∈cT ar au x:=
 xet fU.one (by exact OF) fun j h=>absurd h (Nat.not_lt_zero _)
theorem Jr{ar au}{r:List Str}(hr:∀y∈r,∀p∈gS ar au y,p∈r):∀{n i:Nat} {f:List Str},(∀y∈f,y∈r)→∀y∈gF ar au n i f,y∈r
 |0,_,_,h=>h
 |n+1,i,f,h=>by
  cases e:f[i]? with
  |none=>rw[jF e];exact h
  |some one=>
   rw[lX e]
   refine Jr hr fun y hy=>?_
   rcases A6 hy with hy|hy
   ·exact h y hy
   ·exact hr one (h one (List.mem_of_getElem? e)) y hy
theorem Qk{one:Str}:∀{us:List (Str×List Str)} {f:List Str} {p:Str},p∈f→p∈us.foldl (gL one) f
 |[],_,_,h=>h
 |u::r,f,p,h=>Qk (us:=r) (by unfold gL;split;exact List.mem_append_left _ h;exact h)
theorem WO{ar au x}:x∈cT ar au x:=by
 obtain⟨t,e⟩:∃t,cT ar au x=x::t:=BQ
 rw[e];exact .head _
theorem WP{ar au x y}(h:y∈cT ar au x):∀z∈cT ar au y,z∈cT ar au x:=
 Jr Qg fun z hz=>by simp at hz;subst hz;exact h
noncomputable def jb:List Str:=[q "C0",q "C1",q "C2"]
theorem Yn:aM hH (q "integer")=some [q "numeric"]:=by kernel_rfl
theorem WN{ar au}(h:aM ar (q "integer")=none):∀z∈cT ar au (q "numeric"),z∈cT ar au (q "integer"):=
 WP (Qg _ WO _ (Qk (by unfold gN;rw[h,Yn];simp)))
theorem gM{l:List Str}{c:Str}:l.any (·==c)=true↔c∈l:=by
 rw[List.any_eq_true]
 constructor
 ·rintro⟨a,h,e⟩;rw[←eq_of_beq e];exact h
 ·intro h;exact⟨c,h,by simp⟩
set_option tactic.hygienic true in
theorem AP {p c:Str} {k:Int} (hc:(c==q "ANY")=false):(gi aK p k).any (·.1==c)=(aK.any (·.1==c)||p==c):=by
 unfold gi
 split
 ·rename_i h
  cases e:p==c with
  |false=>rw[Bool.or_false]
  |true=>
   have:=eq_of_beq e;subst this
   rw[hc,Bool.false_or] at h
   rw[h];rfl
 ·rw[List.any_append];simp
theorem SG{c:Str}{i:Nat}(hc:(c==q "ANY")=false):∀{l aK:List (Str×Int)},(l.foldl (ie i) aK).any (·.1==c)=(aK.any (·.1==c)||l.any (·.1==c))
 |[],_=>by simp
 |a::r,aK=>by
  rw[List.foldl_cons,SG hc (l:=r),List.any_cons]
  unfold ie
  rw[AP hc,Bool.or_assoc]
theorem OU{cs us c}{z:Str×Nat}(hc:(c==q "ANY")=false):(outF cs us aK z).any (·.1==c)=(aK.any (·.1==c)||(dn cs us z.1).any (·.1==c)):=SG hc
set_option tactic.hygienic true in
theorem WR {p:Str} {k:Int}:∀y∈(gi aK p k).map (·.1),y∈aK.map (·.1)∨(y=p∧(p==q "ANY")=false):=by
 intro y hy
 unfold gi at hy
 split at hy
 ·exact .inl hy
 ·rename_i h
  rw[List.map_append,List.mem_append] at hy
  rcases hy with hy|hy
  ·exact .inl hy
  ·simp at hy;subst hy
   exact .inr ⟨rfl,by cases e:y==q "ANY"<;>simp[e] at h ⊢⟩
set_option tactic.hygienic true in
theorem WS {p:Str} {k:Int} (h:(aK.map (·.1)).Nodup):((gi aK p k).map (·.1)).Nodup:=by
 unfold gi
 split
 ·exact h
 ·rename_i hn
  rw[List.map_append,List.nodup_append]
  refine⟨h,by simp,fun a ha b hb e=>hn ?_⟩
  simp at hb;subst hb;subst e
  refine aS (List.mem_map.mp ha) fun r z1=>ay z1 fun hr z2=>?_
  clear z1
  subst z2
  rw[Bool.or_eq_true];right
  exact List.any_eq_true.mpr ⟨r,hr,by simp⟩
def gK(aK:List (Str×Int)):Prop:=(aK.map (·.1)).Nodup∧∀y∈aK.map (·.1),y∈cj
theorem gK.add{p:Str}{k:Int}(h:gK aK)(hp:p∈cj∨p=q "ANY"):gK (gi aK p k):=
 ⟨WS h.1,fun y hy=>by
  rcases WR y hy with hy|⟨rfl,hy⟩
  ·exact h.2 y hy
  ·rcases hp with hp|hp
   ·exact hp
   ·subst hp;simp at hy⟩
theorem gK.ie{i:Nat}:∀{l aK:List (Str×Int)},gK aK→(∀p∈l,p.1∈cj∨p.1=q "ANY")→gK (l.foldl (ie i) aK)
 |[],_,h,_=>h
 |a::r,aK,h,hl=>gK.ie (l:=r) (h.add (hl a (.head _))) fun p hp=>hl p (.tail _ hp)
theorem gK.len(h:gK aK):aK.length≤60:=by
 have h1:=BR h.1 h.2
 have h2:cj.length=10:=by kernel_rfl
 rw[h2,List.length_map] at h1
 exact xfn h1
structure cI(n:Nat)(G:Gs):Prop where
 R:Rel G.over G.au G.cs G.us
 I:fF G.over G.au
 z:Sz n G.over G.au G.cs G.us
 k:∀x,(aM G.over x).isSome=true→x∈jb
theorem I6{ar:List (Str×List Str)}(k:∀x,(aM ar x).isSome=true→x∈jb)(h:jb.any (·==x)=false):aM ar x=none:=by
 cases e:aM ar x with
 |none=>rfl
 |some b=>rw[gM.mpr (k x (by rw[e];rfl))] at h;cases h
section
variable {n:Nat} {G:Gs}
theorem cI.any(V:cI n G):aM G.over (q "ANY")=none:=I6 V.k (by kernel_rfl)
theorem cI.int(V:cI n G):aM G.over (q "integer")=none:=I6 V.k (by kernel_rfl)
theorem PI(V:cI n G){c:Str}(hx:x∈cj)(hc:(c==q "ANY")=false):((x==c)||(dn G.cs G.us x).any (·.1==c))=(cT G.over G.au x).any (·==c):=by
 refine aP (GB V.R V.I.iw hx) fun k aJ z1=>ay z1 fun e1 e2=>?_
 clear z1
 have hA:(q "ANY"==c)=false:=by rw[Bool.beq_comm];exact hc
 unfold dn
 rw[e1,e2,List.cons_append,List.tail_cons,List.any_append]
 simp only[List.any_cons,List.any_nil,Bool.or_false,hA,List.any_map]
 rfl
theorem PJ(V:cI n G)(hx:x∈cj):∀p∈dn G.cs G.us x,p.1∈cj∨p.1=q "ANY":=by
 intro p hp
 refine aP (GB V.R V.I.iw hx) fun k aJ z1=>ay z1 fun e1 e2=>?_
 clear z1
 unfold dn at hp
 rw[e1,List.cons_append,List.tail_cons] at hp
 rcases List.mem_append.mp hp with hp|hp
 ·left
  have Sr:p.1∈(jJ G.cs G.us x).map (·.1):=by rw[e1];exact List.mem_map_of_mem (f:=(·.1)) (List.mem_cons_of_mem _ hp)
  have ha:∀y∈cT G.over G.au x,y∈cj:=Jr (r:=cj) (fun y zz p hp=>V.I.iw.Hz hp) (by simpa using hx)
  rw[GA V.R V.I.iw hx] at Sr
  exact ha _ Sr
 ·simp at hp;subst hp;exact .inr rfl
theorem xd0(V:cI n G){c:Str}(hx:x∈cj)(hc:(c==q "ANY")=false):isA G.cs G.us [x] c=(cT G.over G.au x).any (·==c)∧(hY G.cs G.us [x]).length≤60:=by
 have hA:(q "ANY"==c)=false:=by rw[Bool.beq_comm];exact hc
 constructor
 ·unfold isA hY js
  simp only[List.zipIdx_cons,List.zipIdx_nil,List.foldl_cons,List.foldl_nil]
  rw[OU hc,lg,AP hc,hA,←PI V hx hc]
  simp
 ·refine gK.len (gK.ie ?_ (PJ V hx))
  unfold js
  simp only[List.zipIdx_cons,List.zipIdx_nil,List.foldl_cons,List.foldl_nil]
  rw[lg]
  exact gK.add ⟨.nil,fun y hy=>by simp at hy⟩ (.inl hx)
theorem vM:q "integer"∈cj:=gM.mp (by kernel_rfl)
theorem wj:q "numeric"∈cj:=gM.mp (by kernel_rfl)
theorem xaa:q "character"∈cj:=gM.mp (by kernel_rfl)
theorem xdZ(V:cI n G){c:Str}(hc:(c==q "ANY")=false):isA G.cs G.us [q "integer",q "numeric"] c=(cT G.over G.au (q "integer")).any (·==c)∧(hY G.cs G.us [q "integer",q "numeric"]).length≤60:=by
 have hA:(q "ANY"==c)=false:=by rw[Bool.beq_comm];exact hc
 constructor
 ·unfold isA hY js
  simp only[List.zipIdx_cons,List.zipIdx_nil,List.foldl_cons,List.foldl_nil]
  rw[OU hc,OU hc,lg,lg,AP hc,AP hc,hA,List.any_nil]
  have h1:=PI V vM hc
  have h2:=PI V wj hc
  have h3:(cT G.over G.au (q "numeric")).any (·==c)=true→(cT G.over G.au (q "integer")).any (·==c)=true:=fun h=>gM.mpr (WN V.int _ (gM.mp h))
  rw[←h2,←h1] at h3
  rw[←h1]
  revert h3
  generalize (q "integer"==c)=b1
  generalize (q "numeric"==c)=b2
  generalize ((dn G.cs G.us (q "integer")).any fun x=>x.1==c)=b3
  generalize ((dn G.cs G.us (q "numeric")).any fun x=>x.1==c)=b4
  revert b1 b2 b3 b4
  decide
 ·refine gK.len (gK.ie (gK.ie ?_ (PJ V vM)) (PJ V wj))
  unfold js
  simp only[List.zipIdx_cons,List.zipIdx_nil,List.foldl_cons,List.foldl_nil]
  rw[lg,lg]
  exact gK.add (gK.add ⟨.nil,fun y hy=>by simp at hy⟩ (.inl vM)) (.inl wj)
theorem xcI(V:cI n G){c:Str}(hx:x∈cj):(gq G.cs G.us x c).isSome=((cT G.over G.au x).any (·==c)||c==q "ANY"):=by
 cases hc:c==q "ANY" with
 |false=>rw[Bool.or_false];exact Hm V.R V.I.iw hx hc
 |true=>
  have:=eq_of_beq hc;subst this
  rw[Bool.or_true]
  refine aP (GB V.R V.I.iw hx) fun k aJ z1=>ay z1 fun e1 e2=>?_
  clear z1
  unfold gq dn
  rw[e1]
  split
  ·rfl
  ·rw[Option.isSome_map,Hw,List.cons_append,List.tail_cons,List.any_append]
   simp
theorem xju(V:cI n G)(x:Str):ph G.cs x=(aM G.au x).isSome:=by
 unfold ph
 rw[V.R.lk]
 cases e:aM G.over x with
 |some ms=>rw[V.R.dj x (by rw[e];rfl)];rfl
 |none=>
  cases e2:aM G.au x with
  |some ms=>rfl
  |none=>rfl
theorem xil(V:cI n G)(hx:x∈cj):(f0 (lm G.cs G.us x)).map (·.1)=jp G.over G.au x:=by
 rw[xik V.R V.I.iw hx V.any]
 unfold f0 jp
 split<;>simp
theorem xaf:jb.all (fun m=> !(i7.any (·==m)))=true:=by kernel_rfl
theorem xjr:i7.all (fun m=> !(jb.any (·==m)))=true:=by kernel_rfl
theorem cI.uno(V:cI n G)(h:nm∈i7):aM G.over nm=none:=I6 V.k (by have:=List.all_eq_true.mp xjr nm h;simpa using this)
theorem cI.Rg(V:cI n G)(h:nm∈jb):aM G.au nm=none:=by
 cases e:aM G.au nm with
 |none=>rfl
 |some ms=>
  have h1:=V.I.iw.uk nm (by rw[e];rfl)
  have h2:=List.all_eq_true.mp xaf nm h
  rw[gM.mpr h1] at h2;cases h2
theorem cI.f8(V:cI n G)(h:nm∈i7)(hl:ms.length≤9):cI (n+1) ⟨G.over,bT G.au nm ms,kM G.cs true nm ms,lp G.us true nm ms⟩:=
 ⟨V.R.uf (V.uno h),V.I.uf h,V.z.uf hl,V.k⟩
theorem cI.xjd(V:cI n G)(h:nm∈jb)(hm:∀m∈ms,m∈eB)(hl:ms.length≤9):cI (n+1) ⟨bT G.over nm ms,G.au,kM G.cs false nm ms,lp G.us false nm ms⟩:=
 ⟨V.R.ng (V.Rg h),V.I.ng hm,V.z.ng hl,fun x hx=>by
  rw[oE] at hx
  by_cases e:nm=x
  ·subst e;exact h
  ·rw[if_neg e] at hx;exact V.k x hx⟩
theorem cI.le{m:Nat}(V:cI n G)(h:n≤m):cI m G:=⟨V.R,V.I,V.z.le h,V.k⟩
theorem Rf:jb.all (fun m=>eB.any (·==m))=true:=by kernel_rfl
theorem cI.dk(V:cI n G)(m:Str):DK G.cs G.us m:=by
 intro h
 have hm:m∈eB:=by
  rw[V.R.lk] at h
  cases e:aM G.over m with
  |some ms=>exact gM.mp (List.all_eq_true.mp Rf m (V.k m (by rw[e];rfl)))
  |none=>
   rw[e] at h
   cases e2:aM G.au m with
   |some ms=>exact PN (V.I.iw.uk m (by rw[e2];rfl))
   |none=>rw[e2] at h;cases h
 exact Ro V.R V.I hm h
theorem cI.dk'(V:cI n G)(h:nm∈jb)(hm:∀m∈ms,m∈eB):DK (bT G.cs nm ⟨false,ms⟩) G.us nm:=
 Ro (V.R.ng (V.Rg h)) (V.I.ng hm) (gM.mp (List.all_eq_true.mp Rf nm h))
theorem cI.zU(V:cI n G)(hl:ms.length≤9)(hn:n<100):Small (kM G.cs true nm ms) (lp G.us true nm ms):=(V.z.uf hl).small hn
theorem cI.zO(V:cI n G)(hl:ms.length≤9)(hn:n<100):Small (kM G.cs false nm ms) (lp G.us false nm ms):=(V.z.ng hl).small hn
theorem cI.nil:cI 0 ⟨[],[],[],[]⟩:=⟨Rel.nil,fF.nil,Sz.nil,fun x h=>by cases h⟩
end
theorem UN:eG.all (fun m=>Nat.ble m.length 1000&& !(m==q "VIRTUAL"))=true:=by kernel_rfl
theorem UP{m:Str}(h:m∈eG):m.length≤1000:=by
 have:=List.all_eq_true.mp UN m h
 rw[Bool.and_eq_true] at this
 exact Nat.le_of_ble_eq_true this.1
theorem xhk(h:∀m∈ms,m∈eG):ms.any (·==q "VIRTUAL")=false:=by
 cases e:ms.any (·==q "VIRTUAL") with
 |false=>rfl
 |true=>
  have:=List.all_eq_true.mp UN _ (h _ (gM.mp e))
  rw[Bool.and_eq_true] at this
  have:=this.2
  simp at this
theorem Jw{a b:Str}(h:0<a.length):((a++b)==q "")=false:=by
 rw[beq_eq_false_iff_ne]
 intro e
 have:=congrArg Str.length e
 rw[strLen_append] at this
 have h0:(q "").length=0:=by kernel_rfl
 exact xfo h this h0
theorem len_app{a b:Str}(h:0<a.length):0<(a++b).length:=by rw[strLen_append];exact xfp h
theorem xat{cs us bu nm ms bz}(h:kN cs us bu nm ms=some bz):(bz==q "")=false:=by
 have hU:∀m,(qx m==q "")=false:=fun m=>by unfold qx;rw[empty_app];exact Jw (len_app (Nat.lt_of_lt_of_le (by decide:0<1) (Nat.le_of_ble_eq_true (by kernel_rfl))))
 have hO:∀m,(m7 m==q "")=false:=fun m=>by unfold m7;rw[empty_app];exact Jw (len_app (Nat.lt_of_lt_of_le (by decide:0<1) (Nat.le_of_ble_eq_true (by kernel_rfl))))
 have hC:∀m,(qw m nm==q "")=false:=fun m=>by unfold qw;rw[empty_app];exact Jw (len_app (len_app (len_app (Nat.lt_of_lt_of_le (by decide:0<1) (Nat.le_of_ble_eq_true (by kernel_rfl))))))
 unfold kN at h
 split at h
 ·refine aS (List.exists_of_findSome?_eq_some h) fun m z1=>ay z1 fun z2 hm=>?_
  clear z1
  unfold iB at hm
  split at hm
  ·injection hm with hm;subst hm;exact hU m
  ·split at hm
   ·injection hm with hm;subst hm;exact hO nm
   ·cases hm
 ·refine aS (List.exists_of_findSome?_eq_some h) fun m z1=>ay z1 fun z2 hm=>?_
  clear z1
  unfold gO at hm
  split at hm
  ·injection hm with hm;subst hm;exact hC m
  ·split at hm
   ·injection hm with hm;subst hm;exact hO nm
   ·cases hm
section
variable {a:Ad} {F:List Addr} {b:Bool} {G:Gs}
theorem Lw.Gn(S:St ai ae L s l aa)(X:Lw af w W aa a F b G){x:Addr}{o':Obj}(hx:x∈[a.pl,a.L+3,a.ov,a.uv])(hm:(x,o)∈aa)(hd:∀vs,o.data≠.fields vs)(u:Up x o o' aa ag)(G':Gs)(hc:G'.cs=G.cs)(hu:G'.us=G.us)(pp:x≠a.pl∨∃vs n ns,(a.pl,listOf vs.toArray n)∈ag∧IntsAre vs ns∧vs.length≤10000)(uc:x≠a.L+3∨∃o v,(a.L+3,o)∈ag∧o.data= .cell v)(ho:(x≠a.ov∧G'.over=G.over)∨Dc af w ag a.ov (fW W ag) G'.over)(hun:(x≠a.uv∧G'.au=G.au)∨Dc af w ag a.uv (fW W ag) G'.au):Lw af w W ag a F b G':=by
 obtain⟨Y,kp⟩:=X.put S hx hm hd u
 refine⟨by rw[hc,hu];exact Y,let ⟨o,h,e⟩:=X.pc;⟨o,h.mono kp,e⟩,?_,let ⟨o,h,e⟩:=X.oc;⟨o,h.mono kp,e⟩,X.Aq.mono kp,?_,X.cl.mono kp,X.d.mono (fun zz zz zz h=>h) fun zz h=>kp _ h X.dW,X.dW,?_,?_,X.wr,X.nd⟩
 ·rcases pp with h|h
  ·obtain⟨vs,n,ns,m,r⟩:=X.pp;exact⟨vs,n,ns,u.keep m (Ne.symm h),r⟩
  ·exact h
 ·rcases uc with h|h
  ·obtain⟨o,v,m,r⟩:=X.uc;exact⟨o,v,u.keep m (Ne.symm h),r⟩
  ·exact h
 ·rcases ho with⟨h,e⟩|h
  ·rw[e];exact X.o.mono (fun zz zz zz h=>h.mono kp) fun zz m=>u.keep m (Ne.symm h)
  ·exact h
 ·rcases hun with⟨h,e⟩|h
  ·rw[e];exact X.u.mono (fun zz zz zz h=>h.mono kp) fun zz m=>u.keep m (Ne.symm h)
  ·exact h
theorem Lw.ne(X:Lw af w W aa a F b G):a.pl≠a.L+3∧a.pl≠a.ov∧a.pl≠a.uv∧a.L+3≠a.ov∧a.L+3≠a.uv∧a.ov≠a.uv:=by
 have h:=X.nd
 simp only[List.nodup_cons,List.mem_cons,List.not_mem_nil,or_false,not_or] at h
 exact nu h.1.1 h.1.2.1 h.1.2.2 h.2.1.1 h.2.1.2 h.2.2.1
theorem Up.kp{x:Addr}{o':Obj}(u:Up x o o' aa ag)(hW:x∈W):Kp W aa ag:=fun p hp hn=>u.keep hp fun e=>hn (e▸hW)
theorem Lw.Ap(S:St ai ae L s l aa)(X:Lw af w W aa a F b G):∃(vs:List Value) (n:Nat) (ns:List Int) (g:Obj→List (Addr×Obj)),(∀o',Up a.pl (listOf vs.toArray n) o' aa (g o'))∧IntsAre vs ns∧vs.length≤10000∧
  ∀mn n' lZ,IntsAre mn lZ→mn.length≤vs.length→Lw af w W (g (listOf mn.toArray n')) a F b G∧Kp W aa (g (listOf mn.toArray n')):=by
 refine cQ X.pp fun vs n ns z1=>aO z1 fun m hi hz=>?_
 clear z1
 obtain⟨g,u⟩:=Up.ex S m
 refine bB X.ne fun n1 n2 n3 z1=>?_
 exact gJ (a:=vs) (b:=n) (c:=ns) (d:=g) (bW u hi hz (fun mn n' lZ e7 ic=>⟨X.Gn S (by simp) m (fun zz e=>by cases e) (u _) G rfl rfl (.inr ⟨mn,n',lZ,(u _).jE,e7,Nat.le_trans ic hz⟩) (.inl n1) (.inl ⟨n2,rfl⟩) (.inl ⟨n3,rfl⟩),(u _).kp (X.wr _ (by simp)).1⟩))
theorem Lw.W8(S:St ai ae L s l aa)(X:Lw af w W aa a F b G):∃(o:Obj) (v:Option Value) (g:Obj→List (Addr×Obj)),(∀o',Up (a.L+3) o o' aa (g o'))∧o.data= .cell v∧∀o' v',o'.data= .cell v'→Lw af w W (g o') a F b G∧Kp W aa (g o')∧(a.L+3,o')∈g o':=by
 refine aP X.uc fun o v z1=>ay z1 fun m e=>?_
 clear z1
 obtain⟨g,u⟩:=Up.ex S m
 refine kF X.ne fun n1 z1 z2 n4 n5 z3=>?_
 exact eK (a:=o) (b:=v) (c:=g) (aR u e (fun o' v' e'=>⟨X.Gn S (by simp) m (fun zz h=>by rw[e] at h;cases h) (u _) G rfl rfl (.inl (Ne.symm n1)) (.inr ⟨o',v',(u _).jE,e'⟩) (.inl ⟨n4,rfl⟩) (.inl ⟨n5,rfl⟩),(u _).kp (X.wr _ (by simp)).1,(u _).jE⟩))
theorem Lw.puO(S:St ai ae L s l aa)(X:Lw af w W aa a F b G):∃(o:Obj) (aD:List (Str×Value)) (g:Obj→List (Addr×Obj)),(∀o',Up a.ov o o' aa (g o'))∧o.IsDictOf (PySem.strKind af w) aD∧aD.length=G.over.length∧
  ∀nm ms v o',fW W aa nm ms v→o'.IsDictOf (PySem.strKind af w) (stored aD nm v)→Lw af w W (g o') a F b ⟨bT G.over nm ms,G.au,G.cs,G.us⟩∧Kp W aa (g o'):=by
 refine aP X.o.ex fun o aD z1=>aO z1 fun m hd al=>?_
 clear z1
 obtain⟨g,u⟩:=Up.ex S m
 refine kF X.ne fun z1 n2 z2 n4 z3 n6=>eK (a:=o) (b:=aD) (c:=g) (bW u hd al.len (fun nm ms v o' hv fC=>?_))
 have kp:Kp W aa (g o'):=(u _).kp (X.wr _ (by simp)).1
 exact bC (X.Gn S (by simp) m (fun vs h=>by obtain⟨es,n,e⟩:=vN hd;rw[e] at h;cases h) (u _) ⟨bT G.over nm ms,G.au,G.cs,G.us⟩ rfl rfl (.inl (Ne.symm n2)) (.inl (Ne.symm n4)) (.inr ⟨⟨o',_,(u _).jE,fC,(al.mono fun zz zz zz h=>h.mono kp).put (hv.mono kp)⟩,X.o.lo⟩) (.inl ⟨n6,rfl⟩)) kp
theorem Lw.puU(S:St ai ae L s l aa)(X:Lw af w W aa a F b G):∃(o:Obj) (aD:List (Str×Value)) (g:Obj→List (Addr×Obj)),(∀o',Up a.uv o o' aa (g o'))∧o.IsDictOf (PySem.strKind af w) aD∧aD.length=G.au.length∧
  ∀nm ms v o',fW W aa nm ms v→o'.IsDictOf (PySem.strKind af w) (stored aD nm v)→Lw af w W (g o') a F b ⟨G.over,bT G.au nm ms,G.cs,G.us⟩∧Kp W aa (g o'):=by
 refine aP X.u.ex fun o aD z1=>aO z1 fun m hd al=>?_
 clear z1
 obtain⟨g,u⟩:=Up.ex S m
 refine kF X.ne fun z1 z2 n3 z3 n5 n6=>eK (a:=o) (b:=aD) (c:=g) (bW u hd al.len (fun nm ms v o' hv fC=>?_))
 have kp:Kp W aa (g o'):=(u _).kp (X.wr _ (by simp)).1
 exact bC (X.Gn S (by simp) m (fun vs h=>by obtain⟨es,n,e⟩:=vN hd;rw[e] at h;cases h) (u _) ⟨G.over,bT G.au nm ms,G.cs,G.us⟩ rfl rfl (.inl (Ne.symm n3)) (.inl (Ne.symm n5)) (.inl ⟨Ne.symm n6,rfl⟩) (.inr ⟨⟨o',_,(u _).jE,fC,(al.mono fun zz zz zz h=>h.mono kp).put (hv.mono kp)⟩,X.u.lo⟩)) kp
def OW(x:Str)(own:List Str):Prop:=own=[x]∨(x=q "integer"∧own=[q "integer",q "numeric"])
def g7(W:List Addr)(aa:List (Addr×Obj))(v:Value):Prop:=∃t x tk vv c own,v= .ref t∧Fz W aa t (bK #[.str x tk,.ref vv] c)∧dr W aa vv own∧OW x own∧x∈cj
def kI(W:List Addr)(aa:List (Addr×Obj))(bl:Addr):Prop:=∃bv bn,Fz W aa bl (listOf bv bn)∧bv.size≤1000∧∀v∈bv.toList,g7 W aa v
theorem dr.kg{v own}(h:dr W aa v own)(k:Kg aa ag):dr W ag v own:=by
 cases h with
 |i h=>exact .i (h.kg k)
 |d h=>exact .d (h.kg k)
 |c h=>exact .c (h.kg k)
 |o h=>exact .o (h.kg k)
theorem g7.kg{v}(h:g7 W aa v)(k:Kg aa ag):g7 W ag v:=by
 obtain⟨t,x,tk,vv,c,own,e,f,g,r⟩:=h
 exact⟨t,x,tk,vv,c,own,e,f.kg k TK,g.kg k,r⟩
theorem g7.step{W' F v}(h:g7 W aa v)(k:Kp F aa ag)(hF:∀a∈F,a∈W)(g:Wx W W' aa):g7 W' ag v:=by
 obtain⟨t,x,tk,vv,c,own,e,f,z,r⟩:=h
 exact⟨t,x,tk,vv,c,own,e,f.step k hF g,z.step k hF g,r⟩
theorem kI.kg{bl}(h:kI W aa bl)(k:Kg aa ag):kI W ag bl:=by
 obtain⟨bv,bn,f,z,r⟩:=h
 exact⟨bv,bn,f.kg k wh,z,fun v hv=>(r v hv).kg k⟩
theorem kI.step{W' F bl}(h:kI W aa bl)(k:Kp F aa ag)(hF:∀a∈F,a∈W)(g:Wx W W' aa):kI W' ag bl:=by
 obtain⟨bv,bn,f,z,r⟩:=h
 exact⟨bv,bn,f.step k hF g,z,fun v hv=>(r v hv).step k hF g⟩
structure Lx(af:Program)(w:World)(W:List Addr)(aa:List (Addr×Obj))(a:Ad)(F:List Addr)(b:Bool)(G:Gs)(fr:List (Addr×Obj))(bl:Addr):Prop where
 X:Lw af w W aa a F b G
 f:∀p∈fr,Fz W aa p.1 p.2
 B:kI W aa bl
variable {fr:List (Addr×Obj)} {bl:Addr}
theorem Lx.mem(X:Lx af w W aa a F b G fr bl)(k:∀p∈aa,p∈ag):Lx af w W ag a F b G fr bl:=
 ⟨X.X.mem k,fun p hp=>(X.f p hp).mono (.fq k),X.B.kg fun p h zz=>k p h⟩
theorem Lx.up{p:Addr×Obj}(X:Lx af w W aa a F b G fr bl):Lx af w W (p::aa) a F b G fr bl:=X.mem fun zz h=> .tail _ h
theorem Lx.app{aw:List (Addr×Obj)}(X:Lx af w W aa a F b G fr bl):Lx af w W (aw++aa) a F b G fr bl:=X.mem fun zz h=>mA h
theorem Lx.post(X:Lx af w W aa a F b G fr bl){W':List Addr}{F':List Addr}{b':Bool}(P:cg af w W aa F a.i a.di a.gl W' ag F' b' G.cs G.us):Lx af w W' ag a F' b' G fr bl:=
 ⟨X.X.post P,fun p hp=>(X.f p hp).step P.k X.X.Y.iz P.g,X.B.step P.k X.X.Y.iz P.g⟩
theorem Lx.O1(X:Lx af w W aa a F b G fr bl)(S:St ai ae L s l aa){W':List Addr}{F':List Addr}{b':Bool}(P:ee af w W aa F a.i a.di a.gl W' ag F' b' G.cs G.us):Lx af w W' ag a F' b' G fr bl:=X.post (P.two S X.X.Y)
theorem Lx.new{x:Addr}{aJ:List (Addr×Obj)}(S:St ai ae L s l ((x,o)::aJ))(hs:∀p∈aa,p∈aJ)(X:Lx af w W aa a F b G fr bl):Lx af w W ((x,o)::aJ) a F b G ((x,o)::fr) bl:=
 have Y:=X.mem fun p h=>mT (hs p h)
 ⟨Y.X,fun p hp=>by
  rcases List.mem_cons.mp hp with rfl|hp
  ·exact⟨mH,S.jT hs X.X.Y.y.hW⟩
  ·exact Y.f p hp,Y.B⟩
theorem Lx.ne{x:Addr}(S:St ai ae L s l ((x,o)::aa))(X:Lx af w W aa a F b G fr bl):∀p∈fr,p.1≠x:=fun p hp e=>by
 have nd:=S.D
 rw[List.map_cons,List.nodup_cons] at nd
 have z:=ka (X.f p hp).1
 rw[show(p.1,p.2).1=x from e] at z
 exact nd.1 z
theorem Lx.less(S:St ai ae L s l aa){I:Addr}{oi:Obj}(X:Lx af w W aa a F b G ((I,oi)::fr) bl)(it:fV oi)(eD:∀p∈fr,p.1≠I)(k:∀p∈aa,p.1≠I→p∈ag):Lx af w W ag a F b G fr bl:=
 have h:=X.f (I,oi) (.head _)
 ⟨X.X.less S h it k,fun p hp=>⟨k _ (X.f p (.tail _ hp)).1 (eD p hp),(X.f p (.tail _ hp)).2⟩,X.B.kg (Kg.of S h.1 it k)⟩
theorem Lx.sub(X:Lx af w W aa a F b G fr bl){Ba:List (Addr×Obj)}(h:∀p∈Ba,p∈fr):Lx af w W aa a F b G Ba bl:=⟨X.X,fun p hp=>X.f p (h p hp),X.B⟩
structure Lk(a:Ad)(l:List (Str×Value)):Prop where
 i:l.lookup (q "interp")=some (.ref a.i)
 w:l.lookup (q "world")=some (.ref a.wc)
 c:l.lookup (q "crowd")=some (.ref a.cr)
end
section
theorem ui{dU:Expr}{Q:Flow→Shared→Prop}{I:Addr}{N:Nat}{O:Nat→Obj→Prop}{item:Nat→Value→Prop}{G:List (Addr×Obj)→Prop}{oi:Obj}(W:Iter af w A I N O item G)(S:St ai ae L s l ((I,oi)::aa))(hO:O 0 oi)(J:Nat→List (Str×Value)→List (Addr×Obj)→Prop)(jV:J 0 l aa)(hG:∀i l' ag,J i l' ag→G ag)(step:∀(i:Nat) v s' l' ag d8 (K:Flow→Shared→Prop) (E':Value→Shared→Prop),i<N→item i v→J i l' ag→O (i+1) d8→(∀bx ef bD,St ai ae L bx ef ((I,d8)::bD)→J (i+1) ef bD→K .next bx)→(∀v bx,Q (.ret v) bx→K (.ret v) bx)→St ai ae L s' l' ((I,d8)::ag)→
      wpAny (model af w) A (assign dU ev v) (fun zz bb=>wpAny (model af w) A (execs bL ev) K E' bb) E' s')(done:∀s' l' ag,J N l' ag→St ai ae L s' l' ag→Q .next s'):
  codeAny (model af w) A (.forLoop dU (.ref I) bL [] ev) (kB (model af w) A ev Q E) s:=by
 refine codeAny_forLoop_any (fun k s'=>∃(i:Nat) (l':List (Str×Value)) (ag:List (Addr×Obj)) (oi:Obj),O i oi∧St ai ae L s' l' ((I,oi)::ag)∧J i l' ag∧i≤N∧k=N+1- i) ?_ (N+1) ⟨0,l,aa,oi,hO,S,jV,Nat.zero_le _,rfl⟩
 rintro k s' ⟨i,l',ag,oi,hO,S',hJ,hi,rfl⟩
 by_cases hv:i<N
 ·refine W.go i _ _ _ _ _ _ _ _ _ hv hO (hG _ _ _ hJ) S' fun v s2 d8 hit kS S2=>W.own (i+1) _ _ _ _ _ _ _ _ _ _ _ kS S2<|wpAny_mono (step i v s2 l' ag d8 (kL (fun bx=>∃ef bD,St ai ae L bx ef ((I,d8)::bD)∧J (i+1) ef bD) Q) (notedBy (model af w) A ev (cameBackBy (model af w) A ev E)) hv hit hJ kS (fun bx l2 cf a b=>⟨l2,cf,a,b⟩) (fun zz zz h=>h) S2) (fun zz bb dS=>wpAny_mono dS (fun f bx cP=>?_) fun zz zz e=>e) fun zz zz e=>e
  exact qp cP fun cP=>by obtain⟨l2,cf,a,b⟩:=cP;exact⟨N+1- (i+1),by exact oN hv,i+1,l2,cf,d8,kS,a,b,hv,rfl⟩
 ·have e:i=N:=by exact OK hi hv
  subst e
  exact W.fin _ _ _ _ _ _ _ _ _ hO (hG _ _ _ hJ) S' fun s2 S2=>wpAny_execs_nil (done _ l' ag hJ S2)
theorem Aw{test:Expr}{x y:Int}{k1 k2:Nat}{p1 p2:Pos}{c:Bool}(S:St ai ae L s l aa)(h1:wpAny M A (isTrue test ev (eval test ev)) (fun c' aL=>c'=c∧St ai ae L aL l aa) E s)(h2:∀t s',St ai ae L s' l aa→Q (.int (if c=true then x else y) t) s'):wpAny M A (eval (.IfExp test (.Constant (.int x) k1 p1) (.Constant (.int y) k2 p2) aI) ev) Q E s:=by
 refine IfExp_ (wpAny_mono h1 (fun c' aL h=>?_) fun zz zz e=>e)
 obtain⟨rfl,S⟩:=h
 cases c' with
 |true=>rw[if_pos rfl];exact bf S h2
 |false=>rw[if_neg (by decide)];exact bf S h2
theorem Lx.back{a:Ad}{F:List Addr}{b:Bool}{G:Gs}{fr:List (Addr×Obj)}{bl I:Addr}{oi:Obj}(S:St ai ae L s l aa)(X:Lx af w W aa a F b G ((I,oi)::fr) bl)(it:fV oi)(eD:∀p∈fr,p.1≠I):
  ∃aJ,St ai ae L s l ((I,oi)::aJ)∧Lx af w W aJ a F b G fr bl:=by
 refine aS (S.pull (X.f (I,oi) (.head _)).1) fun aJ z1=>aO z1 fun S' k z2=>?_
 clear z1
 exact⟨aJ,S',X.less S it eD k⟩
theorem Lw.back{a:Ad}{F:List Addr}{b:Bool}{G:Gs}{I:Addr}{oi:Obj}(S:St ai ae L s l aa)(X:Lw af w W aa a F b G)(h:Fz W aa I oi)(it:fV oi):
  ∃aJ,St ai ae L s l ((I,oi)::aJ)∧Lw af w W aJ a F b G:=by
 refine aS (S.pull h.1) fun aJ z1=>aO z1 fun S' k z2=>?_
 clear z1
 exact⟨aJ,S',X.less S h it k⟩
theorem Lx.fz{a:Ad}{F:List Addr}{b:Bool}{G:Gs}{fr:List (Addr×Obj)}{bl x:Addr}(X:Lx af w W aa a F b G fr bl)(h:Fz W aa x o):Lx af w W aa a F b G ((x,o)::fr) bl:=
 ⟨X.X,fun p hp=>by
  rcases List.mem_cons.mp hp with rfl|hp
  ·exact h
  ·exact X.f p hp,X.B⟩
end
noncomputable def mx:List Stmt:=bt (sA 134)
noncomputable def jP:Scope:=bg (sA 134)
noncomputable abbrev ew(L:Addr):Env:=envX (q "law") jP L 1507 (.ref 1506) [(q "as_union",L+3),(q "pool_of",L+2),(q "pips",L+1)]
section
variable {a:Ad} {F:List Addr} {b:Bool} {G:Gs} {fr:List (Addr×Obj)} {bl:Addr}
theorem xd7{Q:Unit→Shared→Prop}(C:Cx gx aH A ae aE az L dp un)(S:St ai ae L s l aa)(X:Lw af gx.gw W aa a F b G)(h:∀ag s',St ai ae L s' l ag→Lw af gx.gw W ag a F true G→Kp [a.di] aa ag→Q () s'):wpAny (model af gx.gw) A (setAttr (.ref a.i) (q "visible") (.bool true)) Q E s:=by
 refine cB X.Y.y.ex fun od al lim s4 z1=>bB z1 fun m hA z2 T=>kG z2 fun a1 a2 a3 a4 a5 a6 t1 t2 t3 t4 kn z3=>?_
 clear z1 z2
 subst z3
 obtain⟨g,u⟩:=Up.ex S m
 refine Gy (pre:=[(q "s4",s4),(q "deparser",.none),(q "warner",.none),(q "signaller",.none),(q "dispatcher",.none),(q "current",.none)]) C S (Pn _) X.Y.y.hi.1 hA (bj (bj (bj (bj (bj (bj (dP))))))) aG u (fun dM s' h1 S'=>?_)
 have hd:∃es n,od.data= .dict es n:=by obtain⟨es,n,rfl,_⟩:=hA;exact⟨_,_,rfl⟩
 exact h _ _ S' (X.post (cg.pi S (cg.refl X.Y) m T (u _) h1 ⟨a1,a2,a3,a4,a5,a6,t1,t2,t3,t4,kn,rfl⟩ hd)) ((u _).kp (by simp))
theorem xd5{ex:Bool}(C:Cx gx aH A ae aE az L dp un)(S:St ai ae L s l aa)(X:Lw af gx.gw W aa a F b G)(h:∀s',St ai ae L s' l aa→Q (.bool b) s'):wpAny (model af gx.gw) A (getAttr (.ref a.i) (q "visible") ex) Q E s:=by
 refine cB X.Y.y.ex fun od al lim s4 z1=>bB z1 fun m hA z2 T=>kG z2 fun a1 a2 a3 a4 a5 a6 t1 t2 t3 t4 kn z3=>?_
 clear z1 z2
 subst z3
 exact gU C S (fB (eM _) (ue _) (Th _) UL) ⟨_,_,X.Y.y.hi.1,m,hA⟩ (by kernel_rfl) Sc h
theorem BE{ex:Bool}(C:Cx gx aH A ae aE az L dp un)(S:St ai ae L s l aa)(X:Lw af gx.gw W aa a F b G)(h:∀s',St ai ae L s' l aa→Q (.ref a.gl) s'):wpAny (model af gx.gw) A (getAttr (.ref a.i) (q "globals") ex) Q E s:=by
 refine cB X.Y.y.ex fun od al lim s4 z1=>bB z1 fun m hA z2 T=>kG z2 fun a1 a2 a3 a4 a5 a6 t1 t2 t3 t4 kn z3=>?_
 clear z1 z2
 subst z3
 exact gU C S (HC _) ⟨_,_,X.Y.y.hi.1,m,hA⟩ (by kernel_rfl) bA h
theorem xd2{x:String}(h:(x=="__debug__")=false):(q x==q "__debug__")=false:=jj h
theorem BF{tx:Tok}{k kt:Nat}{p0 p1 p2 p3 p4:Pos}(C:Cx gx aH A ae aE (ew L) L (dp+3) (un+9))(S:St ai ae L s l aa)(hW:∀a∈W,∃o,(a,o)∈aa)(hk:(ew L).kindOf nm=some .local)(hd:(nm==q "__debug__")=false)(hl:l.lookup nm=some (.str x tx))(h:∀t v c aw s',St ai ae L s' l ((t,bK #[.none,.ref v] c)::(aw++aa))→cS W ((t,bK #[.none,.ref v] c)::(aw++aa)) v x→Q (.ref t) s'):
  wpAny (model af gx.gw) A (eval (.Tuple [.Constant .none k p0,.Call (.Name (q "_law_word") p1) [.Name nm p2] [] p3] kt p4) (ew L)) Q E s:=by
 exists Tuple_ ?_
 refine spliced_more ?_
 exists wpAny_Constant_none ?_
 refine spliced_more<|O8 C S (vm _) ?_ (hd:=(xd2 (by decide)))
 refine spliced_more ?_
 exists ul S hl ?_ (hl:=hk) (hd:=hd)
 refine spliced_none<|bh C S<|Ay C S (fun x1 dx od it tk n s S hA hlt=>?_)
 have V:=cS.new (aa:=aa) S hA (fun zz h=>h) hW
 refine spliced_none<|ea S aG (fun t s S lt=>?_)
 exact h t x1 0 [(x1,instObj 487 dx),(dx,od),(it,listOf #[.str x tx] n)] s S V.up
theorem SJ{tx:Tok}{k kt:Nat}{p0 p1 p2 p3 p4 p5:Pos}(C:Cx gx aH A ae aE (ew L) L (dp+3) (un+9))(S:St ai ae L s l aa)(hW:∀a∈W,∃o,(a,o)∈aa)(hk:(ew L).kindOf nm=some .local)(hd:(nm==q "__debug__")=false)(hl:l.lookup nm=some (.str x tx))(h:∀ac ak t v c aw s',St ai ae L s' l (aw++aa)→(ac,listOf #[.ref t] ak)∈aw++aa→(t,bK #[.none,.ref v] c)∈aw++aa→cS W (aw++aa) v x→Q (.ref ac) s'):
  wpAny (model af gx.gw) A (eval (.List [.Tuple [.Constant .none k p0,.Call (.Name (q "_law_word") p1) [.Name nm p2] [] p3] kt p4] p5) (ew L)) Q E s:=by
 exists List_ ?_
 refine spliced_more<|BF (W:=W) C S hW hk hd hl (fun t v c aw s S V=>spliced_none<|dm S aG (fun ac s S lt=>?_))
 exact h ac 0 t v c ((ac,listOf #[.ref t] 0)::(t,bK #[.none,.ref v] c)::aw) s S mH (mT mH) V.up
theorem xd3{lY:Str}{tx ty:Tok}{k k2 kt Ja:Nat}{p0 p1 p2 p3 p4 p5 p6 p7 p8 p9 OX:Pos}(C:Cx gx aH A ae aE (ew L) L (dp+3) (un+9))(S:St ai ae L s l aa)(hW:∀a∈W,∃o,(a,o)∈aa)(hk:(ew L).kindOf nm=some .local)(hd:(nm==q "__debug__")=false)(hl:l.lookup nm=some (.str x tx))(qe:(ew L).kindOf lY=some .local)(hd2:(lY==q "__debug__")=false)(oa:l.lookup lY=some (.str y ty))(h:∀ac ak t v c t2 v2 c2 aw s',St ai ae L s' l (aw++aa)→(ac,listOf #[.ref t,.ref t2] ak)∈aw++aa→(t,bK #[.none,.ref v] c)∈aw++aa→(t2,bK #[.none,.ref v2] c2)∈aw++aa→cS W (aw++aa) v x→cS W (aw++aa) v2 y→Q (.ref ac) s'):
  wpAny (model af gx.gw) A (eval (.List [.Tuple [.Constant .none k p0,.Call (.Name (q "_law_word") p1) [.Name nm p2] [] p3] kt p4,.Tuple [.Constant .none k2 p5,.Call (.Name (q "_law_word") p6) [.Name lY p7] [] p8] Ja p9] OX) (ew L)) Q E s:=by
 exists List_ ?_
 refine spliced_more<|BF (W:=W) C S hW hk hd hl (fun t v c aw s S V=>spliced_more ?_)
 refine BF (W:=W) C S (fun a ha=>let ⟨o,ho⟩:=hW a ha;⟨o,mT (mA ho)⟩) qe hd2 oa (fun t2 v2 c2 ce s S V2=>?_)
 refine spliced_none<|dm S aG (fun ac s S lt=>?_)
 have e:(ac,listOf [Value.ref t,Value.ref t2].toArray 0)::(t2,bK #[.none,.ref v2] c2)::(ce++((t,bK #[.none,.ref v] c)::(aw++aa)))=((ac,listOf [Value.ref t,Value.ref t2].toArray 0)::(t2,bK #[.none,.ref v2] c2)::(ce++((t,bK #[.none,.ref v] c)::aw)))++aa:=by simp
 have S2:=e▸S
 exact h ac 0 t v c t2 v2 c2 _ s S2 mH (by simp) (mT mH) (e▸(V.app.up.up)) (e▸V2.up)
theorem xd4{lY:Str}{u:Value}{ty:Tok}{k k2 kt Ja:Nat}{p0 p2 p4 p5 p6 p7 p8 p9 OX:Pos}(C:Cx gx aH A ae aE (ew L) L (dp+3) (un+9))(S:St ai ae L s l aa)(hW:∀a∈W,∃o,(a,o)∈aa)(hk:(ew L).kindOf nm=some .local)(hd:(nm==q "__debug__")=false)(hl:l.lookup nm=some u)(qe:(ew L).kindOf lY=some .local)(hd2:(lY==q "__debug__")=false)(oa:l.lookup lY=some (.str y ty))(h:∀ac ak t c t2 v2 c2 aw s',St ai ae L s' l (aw++aa)→(ac,listOf #[.ref t,.ref t2] ak)∈aw++aa→(t,bK #[.none,u] c)∈aw++aa→(t2,bK #[.none,.ref v2] c2)∈aw++aa→cS W (aw++aa) v2 y→Q (.ref ac) s'):
  wpAny (model af gx.gw) A (eval (.List [.Tuple [.Constant .none k p0,.Name nm p2] kt p4,.Tuple [.Constant .none k2 p5,.Call (.Name (q "_law_word") p6) [.Name lY p7] [] p8] Ja p9] OX) (ew L)) Q E s:=by
 exists List_ ?_
 refine spliced_more ?_
 exists Tuple_ ?_
 refine spliced_more ?_
 exists wpAny_Constant_none ?_
 refine spliced_more ?_
 exists ul S hl ?_ (hl:=hk) (hd:=hd)
 refine spliced_none<|ea S aG (fun t s S lt=>spliced_more ?_)
 refine BF (W:=W) C S (fun a ha=>let ⟨o,ho⟩:=hW a ha;⟨o,mT ho⟩) qe hd2 oa (fun t2 v2 c2 ce s S V2=>?_)
 refine spliced_none<|dm S aG (fun ac s S lt=>?_)
 have e:(ac,listOf [Value.ref t,Value.ref t2].toArray 0)::(t2,bK #[.none,.ref v2] c2)::(ce++((t,bK [Value.none,u].toArray 0)::aa))=((ac,listOf [Value.ref t,Value.ref t2].toArray 0)::(t2,bK #[.none,.ref v2] c2)::(ce++[(t,bK [Value.none,u].toArray 0)]))++aa:=by simp
 have S2:=e▸S
 exact h ac 0 t 0 t2 v2 c2 _ s S2 mH (by simp) (mT mH) (e▸V2.up)
end
theorem Lx.on{af w W aa a F b G fr bl}(S:St ai ae L s l aa)(X:Lx af w W aa a F b G fr bl):Lx af w W aa a F b G fr bl:=X
theorem YG:gQ.all (fun m=>cj.any (·==m))=true:=by kernel_rfl
theorem YK(x:Str)(h:x∈gQ):x∈cj:=gM.mp (List.all_eq_true.mp YG x h)
theorem wg(h:x∈cj):(x==q "ANY")=false:=wf h
set_option tactic.hygienic true in
theorem xij {ar au x} (h:(jp ar au x).any (·==q "s")=true):jp ar au x=[q "s"]:=by
 unfold jp at h ⊢;split
 ·rfl
 ·rename_i g;rw[if_neg g] at h;cases h
set_option tactic.hygienic true in
theorem xii {ar au x} (h:(jp ar au x).any (·==q "s")=false):jp ar au x=[]:=by
 unfold jp at h ⊢;split
 ·rename_i g;rw[if_pos g] at h;simp at h
 ·rfl
section
theorem xha{a:Ad}{F:List Addr}{b:Bool}{G:Gs}{n:Nat}{bl:Addr}{K:Flow→Shared→Prop}(C:Cx gx aH A ae [] (ew a.L) a.L (dp+11) (un+33))(S:St ai ae a.L s l aa)(X:Lx af gx.gw W aa a F b G [] bl)(V:cI n G)(hn:n≤50)(k:Lk a l)(ret:∀W F b s' l' ag,St ai ae a.L s' l' ag→Lw af gx.gw W ag a F b G→K (.ret (.bool true)) s'):wpAny (model af gx.gw) A (execs (mx.drop 10) (ew a.L)) K E s:=by
 refine ec ?_
 intro Kz
 refine cD ?_
 exists ap S k.c ?_
 refine aP X.X.cl fun cv cn z1=>ay z1 fun lK jZ=>?_
 clear z1
 refine dg C.hh S lK.1 (fun I oi s S hO Wi=>?_)
 refine ui Wi S hO (fun i l' ag=>Lk a l'∧∃W F b,Lx af gx.gw W ag a F b G [(a.cr,listOf cv cn)] bl) ⟨k,W,F,b,X.fz lK⟩ (fun zz zz zz hJ=>by obtain⟨_,_,_,_,X⟩:=hJ;exact(X.f _ mH).1) (fun i v s l' ag oi K1 E1 hi hv hJ jW hK hR S=>?_) (fun s l' ag hJ S=>?_)
 ·refine ay hJ fun k z1=>cQ z1 fun W F b X=>?_
  clear hJ z1
  refine aP (eW jZ (i:=i) (by simpa using hv)) fun x tx z1=>ay z1 fun z2 hx=>?_
  clear z1
  subst z2
  have oz:=YK x (List.mem_of_getElem? hx)
  have hit:=jW.vP
  have eD:=Lx.ne S X
  replace X:=Lx.new S (fun zz h=>h) X
  refine eu S (fun s S=>ec ?_)
  intro Kz
  refine br<|Attribute_any_<|aY C S (xc0 _) ?_
  exists bQ S (am k.i) ?_
  refine spliced_more<|SJ (W:=W) C S X.X.Y.y.hW kk nk ah (fun ac ak t1 v1 c1 Hu s S dB dR V1=>spliced_more ?_)
  exists Attribute_Name_<|ap S (am k.i) ?_
  refine BE C S X.app.X (fun s S=>dy C S ?_)
  have X0:=Lx.on S X.app
  have S0:=S
  refine xiu C S X0.X.Y.y dB dR V1 (fun W e9 F v s S P1 FV=>?_)
  replace X:=X0.O1 S0 P1
  refine cB FV fun kQ jt kP fk z1=>ay z1 fun FI mK=>?_
  clear FV z1
  refine gU C S (ju _) FI (aV ah) bA (fun s S=>List_<|spliced_more<|Aw (c:=(aM G.au x).isSome) S ?_ (fun t1 s S=>?_))
  ·have D:=X.X.wd
   refine wpAny_isTrue_Compare1 ?_
   exists ap S ah ?_
   refine Subscript_ ?_
   exists ap S (am k.w)<|bE S (fun bp s S=>?_)
   refine i6 S D.d AK (fun v s hp S=>?_)
   subst hp
   refine nj S D.u (fun s S=>?_)
   exists wpAny_truthy_bool ?_
   exact⟨rfl,S⟩
  refine cF S aG (fun x2 s S l2=>?_)
  refine Pf (by have:=C.hu;exact Aj this) S (mT mK) mH ?_
  replace S:=St.drop S
  exists wpAny_truthy_bool ?_
  refine b7 (by rw[xju V x];simp) ?_
  refine wpAny_execs_nil<|ec ?_
  intro Kz
  refine aX<|Attribute_any_<|aY C S (xc3 _) ?_
  exists bQ S (am k.i) ?_
  refine spliced_more<|SJ (W:=W) C S X.X.Y.y.hW kk nk ah (fun ac ak t1 v1 c1 Hu s S dB dR V1=>spliced_more ?_)
  exists Attribute_Name_<|ap S (am k.i) ?_
  refine BE C S X.app.X (fun s S=>dy C S ?_)
  replace X0:=Lx.on S X.app
  replace S0:=S
  refine xiy C S X0.X.Y.y dB dR V1 (wg oz) (V.dk x) (fun W cf F v s S P1 FV=>?_)
  replace X:=X0.O1 S0 P1
  refine cB FV fun kQ jt fms fk z1=>aO z1 fun FI mK iW=>?_
  clear FV z1
  rw[xil V oz] at iW
  refine gU C S (ju _) FI (aV ah) bA (fun s S=>aW S (fun s S=>ec ?_))
  intro Kz
  refine br ?_
  exists ap S ah ?_
  refine IfExp_<|wpAny_isTrue_Compare1 ?_
  exists bE S (fun bp s S=>?_)
  refine aY C S (xdg _) ?_
  exists bQ S (aB k.w)<|aU S (am ah) ?_
  refine bh C S<|xiD C S X.X.wd (V.z.GC (by exact OH hn)) (fun r vs m aw s S hs=>?_)
  exists in_list_strs (St.lst S mH) hs<|bV (fun c0=>?_) (fun c0=>?_)
  ·exists List_<|cz S (fun bO s S=>?_)
   refine dm S aG (fun x3 s S fj=>?_)
   refine U2 (by have:=C.hu;exact Aj this) S (bc (mA mK)) mH iW (.cons _ _ .nil) ?_
   replace S:=St.drop S
   replace S:=St.drop S
   replace S:=St.uZ S
   exists wpAny_truthy_bool ?_
   refine b7 (by rw[xij c0];simp) ?_
   refine wpAny_execs_nil<|wpAny_execs_nil<|aS (Lx.back S X hit eD) fun aJ z1=>ay z1 fun S X=>?_
   clear z1
   exact hK _ _ _ S ⟨⟨(aB k.i),(aB k.w),(aB k.c)⟩,W,F,b,X⟩
  ·exists List_ ?_
   refine cF S aG (fun x2 s S dE=>?_)
   refine U2 (by have:=C.hu;exact Aj this) S (bc (mA mK)) mH iW .nil ?_
   replace S:=St.drop S
   replace S:=St.drop S
   replace S:=St.uZ S
   exists wpAny_truthy_bool ?_
   refine b7 (by rw[xii c0];simp) ?_
   refine wpAny_execs_nil<|wpAny_execs_nil<|aS (Lx.back S X hit eD) fun aJ z1=>ay z1 fun S X=>?_
   clear z1
   exact hK _ _ _ S ⟨⟨(aB k.i),(aB k.w),(aB k.c)⟩,W,F,b,X⟩
 refine ay hJ fun k z1=>cQ z1 fun W F b X=>?_
 clear hJ z1
 refine ec ?_
 intro Kz
 refine wpAny_Return_some ?_
 exists wpAny_Constant_bool ?_
 exact ret W F b s l' ag S X.X
end
theorem G9:gQ.length=5:=by kernel_rfl
theorem YM:(gQ++[q "numeric",q "vector"]).all (fun m=> !(m==q "ANY"))=true:=by kernel_rfl
theorem YL(h:y∈gQ++[q "numeric",q "vector"]):(y==q "ANY")=false:=by simpa using List.all_eq_true.mp YM y h
theorem xg5{n:Nat}{G:Gs}(V:cI n G){own:List Str}(h:OW x own)(hx:x∈cj)(hy:(y==q "ANY")=false):
  isA G.cs G.us own y=(cT G.over G.au x).any (·==y)∧(hY G.cs G.us own).length≤60∧∀z∈own,(z==q "ANY")=false:=by
 rcases h with rfl|⟨rfl,rfl⟩
 ·obtain⟨h1,h2⟩:=xd0 V hx hy
  exact⟨h1,h2,fun z hz=>by simp at hz;subst hz;exact wg hx⟩
 ·obtain⟨h1,h2⟩:=xdZ V hy
  exact aR h1 h2 (fun z hz=>by simp only[List.mem_cons,List.not_mem_nil,or_false] at hz;rcases hz with rfl|rfl;exact wg vM;exact wg wj)
section
variable {a:Ad} {F:List Addr} {b:Bool} {G:Gs} {fr:List (Addr×Obj)} {bl:Addr}
theorem kI.at(S:St ai ae L s l aa)(B:kI W aa bl){bv:Array Value}{bn i:Nat}(hb:(bl,listOf bv bn)∈aa)(hv:bv[i]?=some v):g7 W aa v:=by
 refine aP B fun bv' bn' z1=>aO z1 fun h1 z2 h2=>?_
 clear B z1
 have e:=S.uniq hb h1.1
 injection e with _ _ e _;injection e with e _;subst e
 exact h2 v (Array.mem_toList_iff.mpr (Array.mem_of_getElem? hv))
theorem Lx.Qv(X:Lx af w W aa a F b G fr bl)(S:St ai ae L s l aa){bv:Array Value}{bn i:Nat}(hv:bv[i]?=some v)(hb:(bl,listOf bv bn)∈fr):g7 W aa v:=kI.at S X.B (X.f _ hb).1 hv
theorem Lx.own(X:Lx af w W aa a F b G fr bl)(S:St ai ae L s l aa){bv:Array Value}{bn i c:Nat}{tb vv:Addr}{tx:Tok}(hv:bv[i]?=some (.ref tb))(hb:(bl,listOf bv bn)∈fr)(ht:(tb,bK #[.str x tx,.ref vv] c)∈fr):∃own,dr W aa vv own∧OW x own:=by
 refine f9 (X.Qv S hv hb) fun t x' tk vv' c' own z1=>eJ z1 fun e h1 h2 h3 z2=>?_
 clear z1
 cases e
 have e:=S.uniq (X.f _ ht).1 h1.1
 injection e with _ _ e _;injection e with e _
 simp at e
 obtain⟨⟨rfl,_⟩,rfl⟩:=e
 exact⟨own,h2,h3⟩
end
section
theorem xhe{a:Ad}{F:List Addr}{b:Bool}{G:Gs}{n:Nat}{bl:Addr}{K:Flow→Shared→Prop}(C:Cx gx aH A ae [] (ew a.L) a.L (dp+11) (un+33))(S:St ai ae a.L s l aa)(X:Lx af gx.gw W aa a F b G [] bl)(V:cI n G)(hn:n≤50)(k:Lk a l)(kb:l.lookup (q "beings")=some (.ref bl))(ret:∀W F b s' l' ag,St ai ae a.L s' l' ag→Lw af gx.gw W ag a F b G→K (.ret (.bool true)) s'):wpAny (model af gx.gw) A (execs (mx.drop 9) (ew a.L)) K E s:=by
 refine ec ?_
 intro Kz
 refine cD ?_
 exists ap S kb ?_
 refine aP X.B fun bv bn z1=>aO z1 fun vB hbz hbe=>?_
 clear z1
 refine aP X.X.cl fun cv cn z1=>ay z1 fun lK jZ=>?_
 clear z1
 refine dg C.hh S vB.1 (fun I oi s S hO Wi=>?_)
 refine ui Wi S hO (fun i l' ag=>Lk a l'∧∃W F b,Lx af gx.gw W ag a F b G [(a.cr,listOf cv cn),(bl,listOf bv bn)] bl) ⟨k,W,F,b,(X.fz vB).fz lK⟩ (fun zz zz zz hJ=>by obtain⟨_,_,_,_,X⟩:=hJ;exact(X.f _ (mT mH)).1) (fun i v s l' ag oi K1 E1 hi hv hJ jW hK hR S=>?_) (fun s l' ag hJ S=>?_)
 ·refine ay hJ fun k z1=>cQ z1 fun W F b X=>?_
  clear hJ z1
  refine f9 (X.Qv S.drop (bn:=bn) hv (by simp)) fun tb x tx vv c own z1=>eJ z1 fun z2 kZ R4 Sq oz=>?_
  clear z1
  subst z2
  have hit:=jW.vP
  have eD:=Lx.ne S X
  replace X:=Lx.new S (fun zz h=>h) X
  refine uw C S (mT kZ.1) (fun s S=>?_)
  replace X:=X.fz kZ.up
  refine ec ?_
  intro Kz
  refine aX<|aY C S (vi _) ?_
  exists bQ S (aB k.w)<|aU S (am ah) ?_
  refine bh C S<|Az C S X.X.wd (V.z.GC (by exact OH hn)) (fun r rv rm aw s S kY=>aW S (fun s S=>?_))
  replace X:=Lx.new S (fun zz h=>mA h) X
  have Ib:=X.f (a.cr,listOf cv cn) (by simp)
  refine ec ?_
  intro Kz
  refine cD<|wpAny_BinOp ?_
  exists ap S (aV k.c)<|List_<|be S (fun bp s S=>cz S (fun bO s S=>?_))
  refine dm S aG (fun x3 s S fj=>?_)
  refine me S (mT Ib.1) mH (by have h:=cG jZ;rw[G9] at h;rw[sizeLine_eq];simp at h ⊢;exact Ue h) (fun x2 s S dE=>?_)
  have oy:=mh jZ (StrsAre.cons (q "numeric") bp (StrsAre.cons (q "vector") bO .nil))
  replace X:=Lx.new S (fun zz h=>mT h) X
  refine dg C.hh S mH (fun I2 OC s S eP G3=>?_)
  refine ui G3 S eP (fun j l' ag=>(Lk a l'∧l'.lookup (q "being")=some (.ref vv)∧l'.lookup (q "above_now")=some (.ref r))∧∃W F b,Lx af gx.gw W ag a F b G [(x2,listOf (cv.toList++[Value.str (q "numeric") bp,Value.str (q "vector") bO].toArray.toList).toArray 0),(r,listOf rv rm),(tb,bK #[.str x tx,.ref vv] c),(I,oi),(a.cr,listOf cv cn),(bl,listOf bv bn)] bl) ⟨⟨⟨(aV k.i),(aV k.w),(aV k.c)⟩,(am ah),ah⟩,W,F,b,X⟩ (fun zz zz zz hJ=>by obtain⟨_,_,_,_,X⟩:=hJ;exact(X.f _ mH).1) (fun j v2 s l' ag oj K2 E2 hj ez hJ HZ HV hR2 S=>?_) (fun s l' ag hJ S=>?_)
  ·refine ay hJ fun z1 z2=>aO z1 fun k Iq n8=>cQ z2 fun W F b X=>?_
   clear hJ z1 z2
   refine aP (eW oy (i:=j) (by simpa using ez)) fun y ty z1=>ay z1 fun z2 hy=>?_
   clear z1
   subst z2
   have hyn:=YL (List.mem_of_getElem? hy)
   have Io:=HZ.vP
   have IA:=Lx.ne S X
   refine aS (X.own S.drop (x:=x) (tx:=tx) (vv:=vv) (c:=c) (tb:=tb) (bv:=bv) (bn:=bn) hv (by simp) (by simp)) fun own z1=>ay z1 fun R4 Sq=>?_
   clear z1
   replace X:=Lx.new S (fun zz h=>h) X
   refine eu S (fun s S=>ec ?_)
   intro Kz
   refine aX<|aY C S (xcZ _) ?_
   exists bQ S (am k.i) ?_
   refine spliced_more<|xd4 (W:=W) C S X.X.Y.y.hW kk nk (am Iq) kk nk ah (fun ac ak t1 c1 t2 v2 c2 Hu s S dB dR IK V2=>spliced_more ?_)
   exists Attribute_Name_<|ap S (am k.i) ?_
   refine BE C S X.app.X (fun s S=>dy C S ?_)
   have X0:=Lx.on S X.app
   refine aO (xg5 V Sq oz hyn) fun j2 gy hia=>xiv C S X0.X.Y dB dR IK R4.up.app V2 hia gy (fun W e9 F v s S P1 FV=>?_)
   replace X:=X0.post P1
   refine aW S (fun s S=>ec ?_)
   intro Kz
   refine br ?_
   exists Attribute_Name_<|ap S ah ?_
   refine cB FV fun kQ jt kP fk z1=>ay z1 fun FI mK=>?_
   clear FV z1
   refine gU C S (ju _) FI (aV ah) bA (fun s S=>List_<|spliced_more<|Aw (c:=(cT G.over G.au x).any (·==y)) S ?_ (fun t1 s S=>?_))
   ·refine wpAny_isTrue_Compare1 ?_
    exists ap S (am ah)<|ap S (aB n8) ?_
    have lS:=(X.f (r,listOf rv rm) (by simp)).1
    exists in_list_strs (St.lst S lS) kY<|wpAny_truthy_bool ?_
    exact⟨rfl,S⟩
   refine cF S aG (fun x3 s S l3=>?_)
   refine Pf (by have:=C.hu;exact Aj this) S (mT mK) mH ?_
   replace S:=St.drop S
   exists wpAny_truthy_bool ?_
   refine b7 (by rw[j2];simp) ?_
   refine wpAny_execs_nil<|wpAny_execs_nil<|aS (Lx.back S X Io IA) fun aJ z1=>ay z1 fun S X=>?_
   clear z1
   exact HV _ _ _ S ⟨⟨⟨(aB k.i),(aB k.w),(aB k.c)⟩,(aB Iq),(aB n8)⟩,W,F,b,X⟩
  refine ay hJ fun z1 z2=>aO z1 fun k Iq n8=>cQ z2 fun W F b X=>?_
  clear hJ z1 z2
  refine wpAny_execs_nil ?_
  replace X:=X.sub (Ba:=[(I,oi),(a.cr,listOf cv cn),(bl,listOf bv bn)]) (fun p hp=>mT (bc hp))
  refine aS (Lx.back S X hit eD) fun aJ z1=>ay z1 fun S X=>?_
  clear z1
  exact hK _ _ _ S ⟨k,W,F,b,X⟩
 refine ay hJ fun k z1=>cQ z1 fun W F b X=>?_
 clear hJ z1
 exact xha C S (X.sub (fun p hp=>by cases hp)) V hn k ret
end
theorem YI:(gQ++[q "integer",q "character"]).all (fun m=>cj.any (·==m))=true:=by kernel_rfl
theorem YH(x:Str)(h:x∈gQ++[q "integer",q "character"]):x∈cj:=gM.mp (List.all_eq_true.mp YI x h)
section
theorem xhd{a:Ad}{F:List Addr}{b:Bool}{G:Gs}{n:Nat}{bl:Addr}{K:Flow→Shared→Prop}(C:Cx gx aH A ae [] (ew a.L) a.L (dp+11) (un+33))(S:St ai ae a.L s l aa)(X:Lx af gx.gw W aa a F b G [] bl)(V:cI n G)(hn:n≤50)(k:Lk a l)(kb:l.lookup (q "beings")=some (.ref bl))(ret:∀W F b s' l' ag,St ai ae a.L s' l' ag→Lw af gx.gw W ag a F b G→K (.ret (.bool true)) s'):wpAny (model af gx.gw) A (execs (mx.drop 8) (ew a.L)) K E s:=by
 refine aP X.X.cl fun cv cn z1=>ay z1 fun lK jZ=>?_
 clear z1
 refine ec ?_
 intro Kz
 refine cD<|wpAny_BinOp ?_
 exists ap S k.c<|List_<|be S (fun bp s S=>cz S (fun bO s S=>?_))
 refine dm S aG (fun x3 s S fj=>?_)
 refine me S (mT lK.1) mH (by have h:=cG jZ;rw[G9] at h;rw[sizeLine_eq];simp at h ⊢;exact Ue h) (fun x1 s S eA=>?_)
 have ol:=mh jZ (StrsAre.cons (q "integer") bp (StrsAre.cons (q "character") bO .nil))
 replace X:=X.fz lK
 replace X:=Lx.new S (fun zz h=>mT h) X
 refine dg C.hh S mH (fun I oi s S hO Wi=>?_)
 refine ui Wi S hO (fun i l' ag=>(Lk a l'∧l'.lookup (q "beings")=some (.ref bl))∧∃W F b,Lx af gx.gw W ag a F b G [(x1,listOf (cv.toList++[Value.str (q "integer") bp,Value.str (q "character") bO].toArray.toList).toArray 0),(a.cr,listOf cv cn)] bl) ⟨⟨k,kb⟩,W,F,b,X⟩ (fun zz zz zz hJ=>by obtain⟨_,_,_,_,X⟩:=hJ;exact(X.f _ mH).1) (fun i v s l' ag oi K1 E1 hi hv hJ jW hK hR S=>?_) (fun s l' ag hJ S=>?_)
 ·refine ay hJ fun z1 z2=>ay z1 fun k kb=>cQ z2 fun W F b X=>?_
  clear hJ z1 z2
  refine aP (eW ol (i:=i) (by simpa using hv)) fun x tx z1=>ay z1 fun z2 hx=>?_
  clear z1
  subst z2
  have oz:=YH x (List.mem_of_getElem? hx)
  have hit:=jW.vP
  have eD:=Lx.ne S X
  replace X:=Lx.new S (fun zz h=>h) X
  refine eu S (fun s S=>ec ?_)
  intro Kz
  refine aX<|aY C S (vi _) ?_
  exists bQ S (am k.w)<|aU S ah ?_
  refine bh C S<|Az C S X.X.wd (V.z.GC (by exact OH hn)) (fun r rv rm aw s S kY=>aW S (fun s S=>?_))
  replace X:=Lx.new S (fun zz h=>mA h) X
  have Ib:=X.f (a.cr,listOf cv cn) (by simp)
  refine ec ?_
  intro Kz
  refine cD<|wpAny_BinOp ?_
  exists ap S (aB k.c)<|List_<|be S (fun fe s S=>be S (fun ej s S=>cz S (fun ed s S=>?_)))
  refine dm S aG (fun x7 s S lU=>?_)
  refine me S (mT Ib.1) mH (by have h:=cG jZ;rw[G9] at h;rw[sizeLine_eq];simp at h ⊢;exact xfq h) (fun x2 s S dE=>?_)
  have oy:=mh jZ (StrsAre.cons (q "numeric") fe (StrsAre.cons (q "vector") ej (StrsAre.cons (q "ANY") ed .nil)))
  replace X:=Lx.new S (fun zz h=>mT h) X
  refine dg C.hh S mH (fun I2 OC s S eP G3=>?_)
  refine ui G3 S eP (fun j l' ag=>(Lk a l'∧l'.lookup (q "beings")=some (.ref bl)∧l'.lookup (q "word")=some (.str x tx)∧l'.lookup (q "above_now")=some (.ref r))∧∃W F b,Lx af gx.gw W ag a F b G [(x2,listOf (cv.toList++[Value.str (q "numeric") fe,Value.str (q "vector") ej,Value.str (q "ANY") ed].toArray.toList).toArray 0),(r,listOf rv rm),(I,oi),(x1,listOf (cv.toList++[Value.str (q "integer") bp,Value.str (q "character") bO].toArray.toList).toArray 0),(a.cr,listOf cv cn)] bl) ⟨⟨⟨(aB k.i),(aB k.w),(aB k.c)⟩,(aB kb),(am ah),ah⟩,W,F,b,X⟩ (fun zz zz zz hJ=>by obtain⟨_,_,_,_,X⟩:=hJ;exact(X.f _ mH).1) (fun j v2 s l' ag oj K2 E2 hj ez hJ HZ HV hR2 S=>?_) (fun s l' ag hJ S=>?_)
  ·refine ay hJ fun z1 z2=>bB z1 fun k kb vH n8=>cQ z2 fun W F b X=>?_
   clear hJ z1 z2
   refine aP (eW oy (i:=j) (by simpa using ez)) fun y ty z1=>ay z1 fun z2 hy=>?_
   clear z1
   subst z2
   have Io:=HZ.vP
   have IA:=Lx.ne S X
   replace X:=Lx.new S (fun zz h=>h) X
   refine eu S (fun s S=>ec ?_)
   intro Kz
   refine aX<|aY C S (xcY _) ?_
   exists bQ S (am k.i) ?_
   refine spliced_more<|xd3 (W:=W) C S X.X.Y.y.hW kk nk (am vH) kk nk ah (fun ac ak t1 v1 c1 t2 v2 c2 Hu s S dB dR IK V1 V2=>spliced_more ?_)
   exists Attribute_Name_<|ap S (am k.i) ?_
   refine BE C S X.app.X (fun s S=>dy C S ?_)
   have X0:=Lx.on S X.app
   have S0:=S
   refine xiw C S X0.X.Y.y dB dR IK V1 V2 (wg oz) (fun W e9 F v s S P1 FV=>?_)
   replace X:=X0.O1 S0 P1
   rw[xcI V oz] at FV
   refine aW S (fun s S=>ec ?_)
   intro Kz
   refine br ?_
   exists Attribute_Name_<|ap S ah ?_
   refine cB FV fun kQ jt kP fk z1=>ay z1 fun FI mK=>?_
   clear FV z1
   refine gU C S (ju _) FI (aV ah) bA (fun s S=>List_<|spliced_more<|Aw (c:=((cT G.over G.au x).any (·==y)||y==q "ANY")) S ?_ (fun t1 s S=>?_))
   ·have lS:=(X.f (r,listOf rv rm) (by simp)).1
    refine isTrue_or<|wpAny_isTrue_Compare1 ?_
    exists ap S (am ah)<|ap S (aB n8)<|in_list_strs (St.lst S lS) kY<|bV (fun c0=>?_) (fun c0=>?_)
    ·exact⟨by rw[c0];rfl,S⟩
    ·refine isTrue_or<|wpAny_isTrue_Compare1 ?_
     exists ap S (am ah)<|bZ S (fun ml s S=>?_)
     refine mY (fun c1=>?_) (fun c1=>?_)
     ·exact⟨by rw[c0,c1];rfl,S⟩
     ·exists isTrue_or_nil ?_
      exact⟨by rw[c0,c1];rfl,S⟩
   refine cF S aG (fun x3 s S l3=>?_)
   refine Pf (by have:=C.hu;exact Aj this) S (mT mK) mH ?_
   replace S:=St.drop S
   refine gY (by simp)<|wpAny_execs_nil<|wpAny_execs_nil<|aS (Lx.back S X Io IA) fun aJ z1=>ay z1 fun S X=>?_
   clear z1
   exact HV _ _ _ S ⟨⟨⟨(aB k.i),(aB k.w),(aB k.c)⟩,(aB kb),(aB vH),(aB n8)⟩,W,F,b,X⟩
  refine ay hJ fun z1 z2=>bB z1 fun k kb vH n8=>cQ z2 fun W F b X=>?_
  clear hJ z1 z2
  refine wpAny_execs_nil ?_
  replace X:=X.sub (Ba:=(I,oi)::[(x1,listOf (cv.toList++[Value.str (q "integer") bp,Value.str (q "character") bO].toArray.toList).toArray 0),(a.cr,listOf cv cn)]) (fun p hp=>mT (mT hp))
  refine aS (Lx.back S X hit eD) fun aJ z1=>ay z1 fun S X=>?_
  clear z1
  exact hK _ _ _ S ⟨⟨k,kb⟩,W,F,b,X⟩
 refine ay hJ fun z1 z2=>ay z1 fun k kb=>cQ z2 fun W F b X=>?_
 clear hJ z1 z2
 exact xhe C S (X.sub (fun p hp=>by cases hp)) V hn k kb ret
end
theorem xae:jb.all (fun m=>cj.any (·==m))=true:=by kernel_rfl
theorem xad(h:x∈jb):x∈cj:=gM.mp (List.all_eq_true.mp xae x h)
theorem St.frs{pre:List (Addr×Obj)}(S:St ai ae L s l (pre++aa))(hW:∀a∈W,∃o,(a,o)∈aa):∀x o,(x,o)∈pre→x∉W:=fun x o h=>S.fresh hW h
theorem St.xcS{pre aJ:List (Addr×Obj)}(S:St ai ae L s l (pre++aJ))(hs:∀p∈aa,p∈aJ)(hW:∀a∈W,∃o,(a,o)∈aa):∀x o,(x,o)∈pre→x∉W:=fun x o h=>S.RQ h hs hW
theorem g7.on(S:St ai ae L s l aa)(h:g7 W aa v):g7 W aa v:=h
theorem WQ{b:List Stmt}{P:Flow→Shared→Prop}(h:∀K E',(∀f s,P f s→K f s)→wpAny M A (execs b ev) K E' s):wpAny M A (execs b ev) P E s:=h P E fun zz zz x=>x
section
theorem xhc{a:Ad}{F:List Addr}{b:Bool}{G:Gs}{n:Nat}{K:Flow→Shared→Prop}(C:Cx gx aH A ae [] (ew a.L) a.L (dp+11) (un+33))(S:St ai ae a.L s l aa)(X:Lw af gx.gw W aa a F b G)(V:cI n G)(hn:n≤50)(k:Lk a l)(ret:∀W F b s' l' ag,St ai ae a.L s' l' ag→Lw af gx.gw W ag a F b G→K (.ret (.bool true)) s'):wpAny (model af gx.gw) A (execs (mx.drop 6) (ew a.L)) K E s:=by
 refine ec ?_
 intro Kz
 refine aX ?_
 exists List_ ?_
 refine spliced_more ?_
 exists Tuple_<|be S (fun bp s S=>?_)
 refine spliced_more<|iJ C S (mF _) (kK _) ?_
 exists be S (fun bO s S=>?_)
 refine spliced_more ?_
 exists List_ ?_
 refine spliced_more ?_
 exists bf S (fun cu s S=>?_)
 refine cF S aG (fun x4 s S i2=>spliced_none<|iE C S<|oK C S (fun x5 d6 OA s S h7 l8 l9=>spliced_none<|ea S aG (fun iq s S SR=>spliced_more ?_)))
 exists Tuple_<|be S (fun PK s S=>?_)
 refine spliced_more<|iJ C S (mF _) (kK _) ?_
 exists be S (fun GI s S=>?_)
 refine spliced_more ?_
 exists List_ ?_
 refine spliced_more ?_
 exists Tuple_ ?_
 refine spliced_more ?_
 exists bf S (fun AC s S=>?_)
 refine spliced_more ?_
 exists bf S (fun xjl s S=>?_)
 refine spliced_none<|ea S aG (fun GN s S xei=>cF S aG (fun x16 s S xjY=>spliced_none<|iE C S<|oK C S (fun PQ Rl xkf s S h19 l20 l21=>spliced_none<|ea S aG (fun PS s S xj1=>spliced_more ?_))))
 exists Tuple_<|be S (fun xjo s S=>?_)
 refine spliced_more<|aY C S (vm _) ?_
 exists cz S (fun xjp s S=>?_)
 refine bh C S<|Ay C S (fun Wf Rp xkt xdV xkO xj8 s S xdO xjV=>spliced_none<|ea S aG (fun GP s S xel=>cF S aG (fun GQ s S xj3=>aW S (fun s S=>?_))))
 have hW:=X.Y.y.hW
 have S2:=S.drop
 have fr:=St.frs (pre:=[(GP,_),(Wf,_),(Rp,_),(xdV,_),(PS,_),(PQ,_),(Rl,_),(x16,_),(GN,_),(iq,_),(x5,_),(d6,_),(x4,_)]) (aa:=aa) S2 hW
 have B1:=g7.on (W:=W) (v:= .ref iq) S2 ⟨iq,q "integer",bp,x5,0,[q "integer",q "numeric"],rfl,⟨mT (mT (dK (mH))),fr _ _ (mT (mT (dK (mH))))⟩,.i ⟨d6,_,⟨mT (mT (mT (dK (mH)))),fr _ _ (mT (mT (mT (dK (mH)))))⟩,⟨mT (mT (mT (mT (dK (mH))))),fr _ _ (mT (mT (mT (mT (dK (mH))))))⟩,h7⟩,.inr ⟨rfl,rfl⟩,vM⟩
 have B2:=g7.on (W:=W) (v:= .ref PS) S2 ⟨PS,q "numeric",PK,PQ,0,[q "numeric"],rfl,⟨mT (b5 (mH)),fr _ _ (ch (mH))⟩,.d ⟨Rl,_,⟨mT (ch (mH)),fr _ _ (eg (mH))⟩,⟨mT (eg (mH)),fr _ _ (BM (mH))⟩,h19⟩,.inl rfl,wj⟩
 have B3:=g7.on (W:=W) (v:= .ref GP) S2 ⟨GP,q "character",xjo,Wf,0,[q "character"],rfl,⟨mH,fr _ _ (mH)⟩,.c ⟨Rp,_,⟨mT (mH),fr _ _ (mT (mH))⟩,⟨mT (mT (mH)),fr _ _ (bc (mH))⟩,xdO⟩,.inl rfl,xaa⟩
 have D:=X.wd
 refine aP X.o.ex fun oo aD z1=>aO z1 fun ho hd al=>?_
 clear z1
 refine ec ?_
 intro Kz
 refine uh<|Subscript_ ?_
 exists ap S (am k.w)<|bE S (fun xkK s S=>?_)
 refine i6 S D.up.up.up.up.up.up.up.up.up.up.up.up.up.up.d AJ (fun v s hp S=>?_)
 subst hp
 refine Gu C S hd X.o.lo (fun i l' ag=>(Lk a l'∧l'.lookup (q "beings")=some (.ref GQ))∧∃bv bn aw,ag=((GQ,listOf bv bn)::(aw++aa):List (Addr×Obj))∧(∀v∈bv.toList,g7 W (aw++aa) v)∧bv.size=i+3)
   ⟨⟨⟨(am k.i),(am k.w),(am k.c)⟩,ah⟩,_,_,[_,_,_,_,_,_,_,_,_,_,_,_,_],rfl,(fun v hv=>by simp only[List.mem_cons,List.not_mem_nil,or_false] at hv;rcases hv with rfl|rfl|rfl<;>assumption),rfl⟩ (fun i l' ag hJ=>by obtain⟨_,_,_,_,rfl,_⟩:=hJ;exact mT (mA ho)) (fun i key v AB s l' ag it hJ hj S=>?_) (fun s l' ag hJ S=>?_)
 ·refine ay hJ fun z1 z2=>ay z1 fun k kb=>cQ z2 fun bv bn aw z3=>aO z3 fun z4 hB hz=>?_
  clear hJ z1 z2 z3
  refine xS1 z4 S fun S=>?_
  refine aS (al.get hj) fun ms z1=>ay z1 fun dO z2=>?_
  clear z1
  have hkn:=xad (V.k key (by rw[Je X.o.nodup dO];rfl))
  have jg:i<G.over.length:=(List.getElem?_eq_some_iff.mp dO).1
  have IX:=V.z.o
  have dw:bv.size≤sizeLine:=by rw[sizeLine_eq];exact xft hn hz jg IX
  refine WQ (fun K1 E1 hK=>ec ?_)
  intro Kz
  refine wpAny_Expr<|methodCall_KW ?_
  exists ap S (am kb) ?_
  refine ft S (mT mH) ?_
  exists Tuple_<|bQ S ah ?_
  refine spliced_more<|iJ C S (aA (aj (aj (pU _)))) (Rc _) ?_
  exists aU S ah ?_
  refine iE C S<|xeK C S (fun Rn PT Hk xkL xeP s S HP l34 l35 xj5=>spliced_none<|ea S aG (fun PU s S xj4=>fb S (Up.tail (Up.tail (Up.tail (Up.tail (Up.tail Up.head))))) dw (fun s S=>wpAny_execs_nil<|hK _ _ ?_)))
  have hW:=X.Y.y.hW
  refine aN (aR (S.perm (ag:=it::(GQ,_)::([(PU,_),(Rn,_),(PT,_),(Hk,_)]++aw++aa)) (pc fun f=>by simp only[List.countP_cons,List.countP_append,List.countP_nil,List.cons_append,List.nil_append];ac_rfl)) (bC ⟨(am k.i),(am k.w),(am k.c)⟩ (am kb)) (eK (aR rfl (fun v hv=>?_) (by rw[Array.size_push];exact xfs hz))))
  rw[Array.toList_push] at hv
  rcases List.mem_append.mp hv with hv|hv
  ·exact(hB v hv).kg fun p hp zz=>List.mem_append.mpr ((List.mem_append.mp hp).imp (fun h=>List.mem_append_right _ h) id)
  ·simp only[List.mem_cons,List.not_mem_nil,or_false] at hv;subst hv
   have fr:=St.xcS (pre:=[(PU,_),(Rn,_),(PT,_),(Hk,_)]) (aJ:=it::(GQ,_)::(aw++aa)) (aa:=aa) S (fun p hp=>mT (mT (mA hp))) hW
   exact xI6 (a:=PU) (b:=key) (d:=PT) (e:=0) (f:=[key]) (iL rfl (bC mH (fr _ _ (mH))) (.o ⟨Hk,_,⟨mT (mT (mH)),fr _ _ (bc (mH))⟩,⟨mT (bc (mH)),fr _ _ (b5 (mH))⟩,HP⟩) (.inl rfl) hkn)
 refine ay hJ fun z1 z2=>ay z1 fun k kb=>cQ z2 fun bv bn aw z3=>aO z3 fun z4 hB hz=>?_
 clear hJ z1 z2 z3
 refine Wq z4 S fun S=>?_
 have IX:=V.z.o
 have j8:=al.len
 exact xhd C S ⟨(X.app).up,(fun zz h=>by cases h),bv,bn,⟨mH,St.jT S (fun p hp=>mA hp) X.Y.y.hW⟩,by exact xfr hn hz IX j8,fun v hv=>(hB v hv).kg fun p hp zz=>mT hp⟩ V hn k kb ret
end
section
variable {lc:List (Str×Value)} {a:Ad} {F:List Addr} {b:Bool} {G:Gs}
theorem Ve{np:Pos}{f:Addr}{e:Expr}{L':Addr}(X:(KF w.params).In ae)(T:Top p dT BP mg mb ae)(S:St ai ae L' s l aa)(hG:ev.globals=mainGlobals)(hg:nsIn (KF w.params) mainGlobals x=some (some (.ref f))∧keepIn (KF w.params) (.ref f)=true)(h:wpAny (model af w) A (spliced (backTo aI (starEach (e::aJ) ev))) (fun vs aL=>(KF w.params).In aL.heap∧wpAny (model af w) A (call (.ref f) vs) Q E aL) E s)(he:autoParam (starEach (e::aJ) ev=(false,eval e ev)::starEach aJ ev) rf)(eS:autoParam ((backTo aI (starEach aJ ev)).any (·.1)=false) rf)(hk:autoParam (ev.scope.kind= .function) kr)(hl:autoParam (ev.kindOf x=some .globalImplicit) kr)(hd:autoParam ((x==q "__debug__")=false) kr):
  wpAny (model af w) A (eval (.Call (.Name x np) (e::aJ) [] aI) ev) Q E s:=
 wpAny_Call_ofName (Vf X T S hG hg.1 (callWith_K X hg.2 h he eS) (hk:=hk) (hl:=hl) (hd:=hd))
theorem xky{np:Pos}{f:Addr}{e:Expr}{L':Addr}(X:(KF w.params).In ae)(T:Top p dT BP mg mb ae)(S:St ai ae L' s l aa)(hG:ev.globals=mainGlobals)(hg:nsIn (KF w.params) mainGlobals x=some (some (.ref f))∧keepIn (KF w.params) (.ref f)=true)(h:wpAny (model af w) A (spliced (backTo aI (starEach (e::aJ) ev))) (fun vs aL=>(KF w.params).In aL.heap∧wpAny (model af w) A (call (.ref f) vs) Q E aL) E s)(he:autoParam (starEach (e::aJ) ev=(false,eval e ev)::starEach aJ ev) rf)(eS:autoParam ((backTo aI (starEach aJ ev)).any (·.1)=false) rf)(hq:autoParam ((ev.scope.kind,ev.scope.names.lookup x,x==q "__debug__")=(.function,some .globalImplicit,false)) kr):wpAny (model af w) A (eval (.Call (.Name x np) (e::aJ) [] aI) ev) Q E s:=Ve X T S hG hg h he eS (hk:=t1 hq) (hl:=t1 (t2 hq)) (hd:=t2 (t2 hq))
theorem xhY{f:Value}{vs:List Value}{L':Addr}(X:(KF w.params).In ae)(S:St ai ae L' s l aa)(h:codeAny (model af w) A (.call f ⟨vs,[]⟩) (kC Q E) s):(KF w.params).In s.heap∧wpAny (model af w) A (call f vs) Q E s:=
 ⟨X.keeps S.F.keep,wpAny_call h⟩
theorem xd6{it dd:Addr×Obj}{Cn:Addr}{oL:Obj}{many:Int}{tm:Tok}(C:Cx gx aH A ae aE az a.L (dp+1) (un+3))(S:St ai ae Cn s lc (it::dd::(a.L,oL)::aa))(X:Lw af gx.gw W aa a F b G)(hL:g8 a.L oL l)(jx:ae.objs.size≤a.L)(lI:ae.objs.size≤Cn)(hm:0<many)(ret:∀ag eF k t s',St ai ae Cn s' lc (it::dd::(a.L,eF)::ag)→g8 a.L eF l→Lw af gx.gw W ag a F b G→Kp [a.pl] aa ag→0≤k→k<many→R (.ok (.ret (.int k t))) s'):
  codeAny (model af gx.gw) A (.call (.ref 1467) ⟨[.ref a.pl,.int many tm],[]⟩) R s:=by
 have S1:St ai ae Cn s lc ((a.L,oL)::it::dd::aa):=S.perm (pc fun f=>by simp only[List.countP_cons];ac_rfl)
 refine aS (St.swap S1 hL jx) fun oC z1=>aO z1 fun hC z2 S2=>?_
 clear z1
 refine cB (X.Ap S2.drop.drop.drop) fun vs n ns g z1=>bB z1 fun u hi hz kk=>?_
 clear z1
 refine VB C S2 (fun o'=> .tail (.tail (.tail (u o')))) hi hz hm (fun eX lZ n' k t s S e7 ic h0 h1=>?_)
 obtain⟨X',kp⟩:=kk eX n' lZ e7 ic
 refine aS (St.swap S hC lI) fun eF z1=>aO z1 fun hL' z2 S3=>?_
 clear z1
 exact ret _ eF k t s (S3.perm (pc fun f=>by simp only[List.countP_cons];ac_rfl)) hL' X' ((u _).kp (by simp)) h0 h1
end
theorem BI:List.lookup (q "pips") [(q "as_union",L+3),(q "pool_of",L+2),(q "pips",L+1)]=some (L+1):=by kernel_rfl
theorem xeb:List.lookup (q "pool_of") [(q "as_union",L+3),(q "pool_of",L+2),(q "pips",L+1)]=some (L+2):=by kernel_rfl
theorem vY:List.lookup (q "as_union") [(q "as_union",L+3),(q "pool_of",L+2),(q "pips",L+1)]=some (L+3):=by kernel_rfl
noncomputable abbrev xah(L:Addr):List (Str×Addr):=[(q "pool_of",L+2),(q "pips",L+1),(q "as_union",L+3)]
noncomputable def ln(x:Str):Bool:=i7.any (·==x)
def xcU(x:Str):Prop:=∃c,(seqIndex? (0:Int) x.length).bind (x.cps[·]?)=some c∧((⟨#[c]⟩:Str)==q "U")=ln x
theorem xai:gQ=[q "C0",q "C1",q "C2",q "U0",q "U1"]:=rfl
theorem YF(h:x∈gQ):xcU x:=by
 rw[xai] at h
 simp only[List.mem_cons,List.not_mem_nil,or_false] at h
 rcases h with rfl|rfl|rfl|rfl|rfl
 ·exact⟨67,by kernel_rfl,by kernel_rfl⟩
 ·exact⟨67,by kernel_rfl,by kernel_rfl⟩
 ·exact⟨67,by kernel_rfl,by kernel_rfl⟩
 ·exact⟨85,by kernel_rfl,by kernel_rfl⟩
 ·exact⟨85,by kernel_rfl,by kernel_rfl⟩
theorem YO(h:ln x=true):x∈i7:=gM.mp h
theorem YE:gQ.all (fun m=>ln m||jb.any (·==m))=true:=by kernel_rfl
theorem Qz(h:x∈gQ)(h2:ln x=false):x∈jb:=by
 have:=List.all_eq_true.mp YE x h
 rw[h2,Bool.false_or] at this
 exact gM.mp this
theorem YN:gQ.all (fun m=>eG.any (·==m))=true:=by kernel_rfl
theorem Ha(h:x∈gQ):x∈eG:=gM.mp (List.all_eq_true.mp YN x h)
theorem xhj:eG.take 6=eB:=by kernel_rfl
theorem xhg:eG.length=9:=by kernel_rfl
theorem xhi{i:Nat}{m:Str}(h:eG[i]?=some m)(hi:i<6):m∈eB:=by
 rw[←xhj]
 exact List.mem_of_getElem? (i:=i) (by rw[List.getElem?_take,if_pos hi];exact h)
theorem Kp.one{x:Addr}(k:Kp [x] aa ag)(hx:x∈W):Kp W aa ag:=fun p hp hn=>k p hp fun m=>hn (by
 rw[List.mem_singleton] at m;rw[m];exact hx)
section
variable {a:Ad} {F:List Addr} {b:Bool} {G:Gs} {fr:List (Addr×Obj)} {bu:Bool}
theorem Jd{many:Int}{tm:Tok}(C:Cx gx aH A ae aE az L (dp+1) (un+3))(S:St ai ae L s l aa)(X:Lw af gx.gw W aa a F b G)(hm:0<many)(ret:∀ag k t s',St ai ae L s' l ag→Lw af gx.gw W ag a F b G→Kp [a.pl] aa ag→0≤k→k<many→R (.ok (.ret (.int k t))) s'):
  codeAny (model af gx.gw) A (.call (.ref 1467) ⟨[.ref a.pl,.int many tm],[]⟩) R s:=by
 refine cB (X.Ap S) fun vs n ns g z1=>bB z1 fun u hi hz kk=>?_
 clear z1
 refine VB C S u hi hz hm (fun eX lZ n' k t s S e7 ic h0 h1=>?_)
 obtain⟨X',kp⟩:=kk eX n' lZ e7 ic
 exact ret _ k t s S X' ((u _).kp (by simp)) h0 h1
structure Lz(af:Program)(w:World)(W:List Addr)(aa:List (Addr×Obj))(a:Ad)(F:List Addr)(b:Bool)(G:Gs)(fr:List (Addr×Obj))(bu:Bool):Prop where
 X:Lw af w W aa a F b G
 f:∀p∈fr,Fz W aa p.1 p.2
 u:∃o,(a.L+3,o)∈aa∧o.data= .cell (some (.bool bu))
theorem Lz.mem(X:Lz af w W aa a F b G fr bu)(k:∀p∈aa,p∈ag):Lz af w W ag a F b G fr bu:=
 ⟨X.X.mem k,fun p hp=>(X.f p hp).mono (.fq k),let ⟨o,h,e⟩:=X.u;⟨o,k _ h,e⟩⟩
theorem Lz.up{p:Addr×Obj}(X:Lz af w W aa a F b G fr bu):Lz af w W (p::aa) a F b G fr bu:=X.mem fun zz h=> .tail _ h
theorem Lz.kp{x:Addr}{b':Bool}(X:Lz af w W aa a F b G fr bu)(Y:Lw af w W ag a F b' G)(k:Kp [x] aa ag)(hx:x∈W)(hn:a.L+3≠x):Lz af w W ag a F b' G fr bu:=
 ⟨Y,fun p hp=>(X.f p hp).mono (k.one hx),let ⟨o,h,e⟩:=X.u;⟨o,k _ h (by simpa using hn),e⟩⟩
theorem Lz.Ap(X:Lz af w W aa a F b G fr bu)(Y:Lw af w W ag a F b G)(k:Kp [a.pl] aa ag):Lz af w W ag a F b G fr bu:=
 X.kp Y k (X.X.wr a.pl (by simp)).1 (Ne.symm X.X.ne.1)
theorem Lz.pi{b':Bool}(X:Lz af w W aa a F b G fr bu)(Y:Lw af w W ag a F b' G)(k:Kp [a.di] aa ag):Lz af w W ag a F b' G fr bu:=
 X.kp Y k X.X.Y.y.eZ fun e=>(X.X.wr (a.L+3) (by simp)).2 (by rw[e];simp)
theorem Lz.post(X:Lz af w W aa a F b G fr bu){W':List Addr}{F':List Addr}{b':Bool}{gR:List (Str×CA)}{eX:List (Str×List Str)}(P:cg af w W aa F a.i a.di a.gl W' ag F' b' gR eX):Lz af w W' ag a F' b' ⟨G.over,G.au,gR,eX⟩ fr bu:=
 ⟨X.X.post P,fun p hp=>(X.f p hp).step P.k X.X.Y.iz P.g,let ⟨o,h,e⟩:=X.u;⟨o,P.k _ h (X.X.wr (a.L+3) (by simp)).2,e⟩⟩
theorem Lz.new{x:Addr}{aJ:List (Addr×Obj)}(S:St ai ae L s l ((x,o)::aJ))(hs:∀p∈aa,p∈aJ)(X:Lz af w W aa a F b G fr bu):Lz af w W ((x,o)::aJ) a F b G ((x,o)::fr) bu:=
 have Y:=X.mem fun p h=>mT (hs p h)
 ⟨Y.X,fun p hp=>by
  rcases List.mem_cons.mp hp with rfl|hp
  ·exact⟨mH,S.jT hs X.X.Y.y.hW⟩
  ·exact Y.f p hp,Y.u⟩
theorem SQ{vs:List Value}{ys:List Str}{i:Nat}(h:StrsAre vs ys)(hi:i<ys.length):∃x t,vs[i]?=some (.str x t)∧ys[i]?=some x:=by
 have hl:=cG h
 refine aP (eW h (i:=i) (v:=vs[i]'(by exact OI hi hl)) (List.getElem?_eq_getElem (by exact OI hi hl))) fun x t z1=>ay z1 fun e hx=>?_
 clear z1
 exact⟨x,t,by rw[←e];exact List.getElem?_eq_getElem (by exact OI hi hl),hx⟩
def Jn(bu:Bool)(i:Nat)(ys:List Value):Prop:=∃ms,StrsAre ys ms∧ms.length=i∧(∀m∈ms,m∈eG)∧(bu=false→∀m∈ms,m∈eB)
theorem Jn.nil{bu:Bool}:Jn bu 0 []:=⟨[],.nil,rfl,(fun zz h=>by cases h),fun zz zz h=>by cases h⟩
theorem Jn.snoc{bu:Bool}{i:Nat}{ys:List Value}{m:Str}{t:Tok}(h:Jn bu i ys)(hm:m∈eG)(hc:bu=false→m∈eB):Jn bu (i+1) (ys++[.str m t]):=by
 refine aS h fun ms z1=>bB z1 fun h1 h2 h3 h4=>?_
 clear h z1
 refine iu (a:=ms++[m]) (bW (mh h1 (.cons _ _ .nil)) (by rw[List.length_append,h2];rfl) (fun x hx=>?_) (fun e x hx=>?_))
 ·rcases List.mem_append.mp hx with hx|hx
  ·exact h3 x hx
  ·rw[List.mem_singleton.mp hx];exact hm
 ·rcases List.mem_append.mp hx with hx|hx
  ·exact h4 e x hx
  ·rw[List.mem_singleton.mp hx];exact hc e
end
theorem YJ:gQ.length=5:=by kernel_rfl
theorem xhh:eG.all (fun m=>cj.any (·==m))=true:=by kernel_rfl
theorem UO{m:Str}(h:m∈eG):(m==q "ANY")=false:=wf (gM.mp (List.all_eq_true.mp xhh m h))
section
theorem xhb{a:Ad}{F:List Addr}{b:Bool}{G:Gs}{K:Flow→Shared→Prop}(C:Cx gx aH A ae [] (ew a.L) a.L (dp+11) (un+33))(S:St ai ae a.L s l aa)(Z:Bs gx)(X:Lw af gx.gw W aa a F b G)(V:cI 0 G)(k:Lk a l)(ret:∀W F b G s' l' ag,St ai ae a.L s' l' ag→Lw af gx.gw W ag a F b G→K (.ret (.bool true)) s'):wpAny (model af gx.gw) A (execs (mx.drop 5) (ew a.L)) K E s:=by
 refine ec ?_
 intro Kz
 refine cD<|fS C S (jf _) ja<|spliced_more<|aY C S (Bg _)<|spliced_more ?_
 obtain⟨Ox,nT,nJ⟩:=X.pc
 exists jI S BI (Fz.mem nT) nJ ?_
 refine spliced_more ?_
 exists bf S (fun bp s S=>?_)
 refine dy C S<|Jd C S X (by decide) (fun e9 z tz s S X1 kp hz0 j7=>spliced_none<|jm S (fun rg ur vr s S lr=>jl C.hh S mH hz0 (by exact xfG j7) (fun I oi s S hO Wi=>ui Wi S hO (fun i l' ag=>Lk a l'∧∃W F b G,Lw af gx.gw W ag a F b G∧cI i G) ⟨k,W,F,b,G,X1.up,V⟩ (fun zz zz zz zz=>trivial) (fun i v s l' ag oi K1 E1 hi hv hJ jW hK hR S=>?_) (fun s l' ag hJ S=>?_))))
 ·refine ay hJ fun k z1=>cB z1 fun W F b G z2=>ay z2 fun X V=>?_
  clear hJ z1 z2
  obtain⟨tv,rfl⟩:=hv
  have hit:fV oi:=by rw[jW];exact xhZ
  have fI:Fz W ((I,oi)::ag) I oi:=⟨mH,S.jT (fun zz h=>h) X.Y.y.hW⟩
  replace X:=X.up (p:=(I,oi))
  refine eu S (fun s S=>ec ?_)
  intro Kz
  refine aX<|Subscript_ ?_
  exists ap S (am k.c) ?_
  refine aY C S (Bg _)<|spliced_more<|aS X.pc fun Ox z1=>ay z1 fun nT nJ=>?_
  clear z1
  exists jI S BI (Fz.mem nT) nJ ?_
  refine spliced_more ?_
  exists bf S (fun bO s S=>?_)
  refine dy C S<|Jd C S X (by decide) (fun e9 z5 tz5 s S X1 kp h50 R2=>?_)
  replace fI:=fI.mono (kp.one (X.wr a.pl (by simp)).1)
  replace X:=X1
  refine aP X.cl fun cv cn z1=>ay z1 fun lK jZ=>?_
  clear z1
  obtain⟨x,tx,ol,oy⟩:=SQ jZ (i:=z5.toNat) (by rw[YJ];exact xfF R2)
  have qn:x∈gQ:=List.mem_of_getElem? oy
  refine cL S lK.1 h50 (by exact xfE R2) (by rw[←Array.getElem?_toList];exact ol) ?_
  refine aW S (fun s S=>ec ?_)
  intro Kz
  refine aX<|wpAny_Compare1<|Subscript_ ?_
  exists ap S ah<|bf S (fun cu s S=>?_)
  obtain⟨c,H6,H7⟩:=YF qn
  refine xhD S (by decide) H6 (fun t0 s S=>?_)
  exists bE S (fun fe s S=>eq_str ?_)
  rw[H7]
  obtain⟨uo,uv,gu,uu,hud,kk⟩:=X.W8 S
  refine Ph S vY uu hud (fun PO s SD S=>?_)
  obtain⟨X1,kp,IP⟩:=kk PO _ SD
  have Z1:Lz af gx.gw W (gu PO) a F b G [(I,oi)] (ln x):=⟨X1,fun p hp=>by cases List.mem_singleton.mp hp;exact fI.mono kp,PO,IP,SD⟩
  refine ec ?_
  intro Kz
  refine US (cl:=xah a.L) kf (by kernel_rfl) (lb (by kernel_rfl)) (namesOk (by kernel_rfl)) ?_ (gz:=rfl)
  refine fS C S (jf _) ja<|spliced_more<|aY C S (Bg _)<|spliced_more ?_
  obtain⟨Ox,nT,nJ⟩:=Z1.X.pc
  exists jI S BI (Fz.mem nT) nJ ?_
  refine spliced_more<|Aw (c:=ln x) S ?_ (fun gH s S=>?_)
  ·refine isTrue_plain ?_
   obtain⟨Gd,lH,lA⟩:=Z1.u
   exists jI S vY lH lA<|wpAny_truthy_bool ?_
   exact⟨rfl,S⟩
  refine dy C S ?_
  refine Jd C S Z1.X (by split<;>decide) (fun cf z4 tz4 s S X1 kp h40 h41=>?_)
  replace Z1:=Z1.Ap X1 kp
  have IV:z4<5:=by split at h41<;>omega
  refine spliced_none<|jm S (fun Gz V0 V6 s S Ji=>jl C.hh S mH h40 (by exact xfD IV) (fun Ix ox s S hOx Wx=>?_))
  refine PX (d:=Ix) (j:=(fun i ys ag=>Lz af gx.gw W ag a F b G [(I,oi)] (ln x)∧Jn (ln x) i ys)) (pt rfl Wx S hOx (by rw[sizeLine_eq];exact xfC IV) ⟨Z1.up,Jn.nil⟩ (fun zz zz zz zz=>trivial) (fun i v s lc ys kk D1 Cn oL ag it EE kW hv hJ hL jx lI S=>?_) (fun D1 ys kk ag s hJ S=>?_))
  ·obtain⟨Z1,dh⟩:=hJ
   refine mf S rfl (fun s S=>?_) (hk:=rfl) (hl:=(by kernel_rfl))
   refine wpAny_tests_nil<|er<|Subscript_ ?_
   obtain⟨xj9,xdm,xbw⟩:=Z1.X.oc
   exists uz (c:=a.L+2) S (by kernel_rfl) (b5 (Fz.mem xdm)) xbw ?_ (hk:=rfl) (hl:=(by kernel_rfl))
   refine Ve C.X C.T S rfl (Bg _) ?_ (hk:=rfl) (hl:=(by kernel_rfl))
   refine spliced_more ?_
   obtain⟨Ox,nT,nJ⟩:=Z1.X.pc
   exists uz (c:=a.L+1) S (by kernel_rfl) (b5 (Fz.mem nT)) nJ ?_ (hk:=rfl) (hl:=(by kernel_rfl))
   refine spliced_more<|Aw (c:=ln x) S ?_ (fun gH s S=>?_)
   ·refine isTrue_plain ?_
    obtain⟨Gd,lH,lA⟩:=Z1.u
    exists uz (c:=a.L+3) S (by kernel_rfl) (b5 lH) lA ?_ (hk:=rfl) (hl:=(by kernel_rfl))
    exists wpAny_truthy_bool ?_
    exact⟨rfl,S⟩
   refine spliced_none<|xhY C.X S ?_
   refine xd6 C S Z1.X hL jx lI (by split<;>decide) (fun cf oL2 z9 tz9 s S hL X1 kp h90 HQ=>?_)
   replace Z1:=Z1.Ap X1 kp
   have iZ:z9<9:=by split at HQ<;>omega
   obtain⟨pv,pn,xdL,bq⟩:=Z1.X.Aq
   obtain⟨m,tm,hm1,Sj⟩:=SQ bq (i:=z9.toNat) (by rw[xhg];exact xfB iZ)
   refine cL S (b5 xdL.1) h90 (by exact xfA iZ) (by rw[←Array.getElem?_toList];exact hm1) ?_
   exact eK (bW S hL Z1 (dh.snoc (List.mem_of_getElem? Sj) fun e=>xhi Sj (by rw[e,if_neg (by decide)] at HQ;exact xfz HQ)))
  obtain⟨Z1,ms,dO,jz,Bp,mQ⟩:=hJ
  have Z2:=Lz.new S (fun zz h=>h) Z1
  have SE:=UP (Ha qn)
  have Sk:∀m∈ms,m.length≤1000:=fun m hm=>UP (Bp m hm)
  have qf:ms.length≤9:=by exact xfy IV jz
  have vD:i<11:=by exact xfw j7 hi
  refine ec ?_
  intro Kz
  refine aX<|aY C S (xdd _) ?_
  exists bQ S (aV k.w)<|bQ S (am ah)<|bQ S ah ?_
  refine spliced_more ?_
  obtain⟨Gd,lH,lA⟩:=Z2.u
  exists jI S vY lH lA ?_
  refine dy C S<|xiB C S Z2.X.wd (V.z.GC (by exact xfv vD)) mH (by simpa using dO) (by exact Ui qf) Sk SE (fun td s S=>?_)
  rw[xas V.R V.I.iw (Ha qn) Bp]
  refine aW S (fun s S=>ec ?_)
  intro Kz
  refine bH ?_
  exists wpAny_Constant_bool<|ap S (bR k.i) ?_
  refine xd7 C S Z2.X (fun xjM s S X1 kp=>?_)
  replace Z2:=Z2.pi X1 kp
  refine ec ?_
  intro Kz
  refine br<|aY C S (xdf _) ?_
  exists bQ S (bR k.i)<|bQ S (aB ah)<|bQ S (am ah) ?_
  refine spliced_more ?_
  obtain⟨Gd,lH,lA⟩:=Z2.u
  exists jI S vY lH lA ?_
  refine dy C S ?_
  have qd:=Z2.f (D1,_) (.head _)
  refine xiC C S Z Z2.X.Y qd.1 (by simpa using dO) (by exact Ui qf) Sk SE (UO (Ha qn)) (xhk Bp) (fun m hm=>UO (Bp m hm)) (fun m zz zz=>V.dk m) (fun e=>V.dk' (Qz qn e) (mQ e)) (by
   cases ln x
   ·exact V.zO qf (by exact Uh vD)
   ·exact V.zU qf (by exact Uh vD)) (fun W1 xd8 F1 tk s qb S P=>?_) (fun W1 xd8 F1 bz tk s qb S P=>?_)
  ·have Z3:=Z2.post P
   exists ap S ah<|km<|wpAny_truthy_bool ?_
   refine b7 (by rw[qb];simp) ?_
   refine wpAny_execs_nil<|ec ?_
   intro Kz
   refine br ?_
   exists ap S ah<|bZ S (fun ej s S=>?_)
   refine oB (by rw[qb];simp) ?_
   refine ec ?_
   intro Kz
   refine wpAny_If<|isTrue_plain ?_
   exists Attribute_Name_<|ap S (bR k.i) ?_
   refine xd5 C S Z3.X (fun s S=>?_)
   exists ei ?_
   refine wpAny_execs_nil<|ec ?_
   intro Kz
   refine wpAny_If<|isTrue_plain ?_
   obtain⟨Gd,lH,lA⟩:=Z3.u
   exists jI S vY lH lA<|bV (fun c0=>?_) (fun c0=>?_)
   ·refine ec ?_
    intro Kz
    refine wpAny_Assign_Subscript ?_
    exists ap S (am ah) ?_
    refine Subscript_ ?_
    exists ap S (bR k.w)<|bE S (fun ed s S=>?_)
    refine i6 S Z3.X.d AK (fun v s hp S=>?_)
    subst hp
    exists ap S (aB ah) ?_
    obtain⟨ou,aD,g2,u2,hd2,It,I7⟩:=Z3.X.puU S
    have IZ:=V.z.u
    refine jn S u2 hd2 (by rw[It,sizeLine_eq];simp only[];exact Ug vD IZ) (fun o4 s IB S=>?_)
    obtain⟨X4,I8⟩:=I7 x ms (.ref D1) o4 ⟨D1,rfl,_,_,Z3.f _ (.head _),by simpa using dO⟩ IB
    obtain⟨aJ,S,X5⟩:=Lw.back S X4 ((Z3.f (I,oi) (.tail _ (.head _))).mono I8) hit
    rw[c0] at X5
    refine wpAny_execs_nil<|wpAny_execs_nil<|wpAny_execs_nil ?_
    exact hK _ _ _ S ⟨⟨(bR k.i),(bR k.w),(bR k.c)⟩,_,_,_,_,X5,V.f8 (YO c0) qf⟩
   ·refine ec ?_
    intro Kz
    refine wpAny_Assign_Subscript ?_
    exists ap S (am ah) ?_
    refine Subscript_ ?_
    exists ap S (bR k.w)<|bE S (fun ed s S=>?_)
    refine i6 S Z3.X.d AJ (fun v s hp S=>?_)
    subst hp
    exists ap S (aB ah) ?_
    obtain⟨ou,aD,g2,u2,hd2,It,I7⟩:=Z3.X.puO S
    have IZ:=V.z.o
    refine jn S u2 hd2 (by rw[It,sizeLine_eq];simp only[];exact Ug vD IZ) (fun o4 s IB S=>?_)
    obtain⟨X4,I8⟩:=I7 x ms (.ref D1) o4 ⟨D1,rfl,_,_,Z3.f _ (.head _),by simpa using dO⟩ IB
    obtain⟨aJ,S,X5⟩:=Lw.back S X4 ((Z3.f (I,oi) (.tail _ (.head _))).mono I8) hit
    rw[c0] at X5
    refine wpAny_execs_nil<|wpAny_execs_nil<|wpAny_execs_nil ?_
    exact hK _ _ _ S ⟨⟨(bR k.i),(bR k.w),(bR k.c)⟩,_,_,_,_,X5,V.xjd (Qz qn c0) (mQ c0) qf⟩
  ·have Z3:=Z2.post P
   exists ap S ah<|km<|wpAny_truthy_bool ?_
   refine b7 (by rw[qb];simp) ?_
   refine wpAny_execs_nil<|ec ?_
   intro Kz
   refine br ?_
   exists ap S ah<|bZ S (fun ej s S=>?_)
   refine b7 (by rw[qb];exact xat qb) ?_
   refine wpAny_execs_nil<|wpAny_execs_nil ?_
   obtain⟨aJ,S,X5⟩:=Lw.back S Z3.X (Z3.f (I,oi) (.tail _ (.head _))) hit
   exact hK _ _ _ S ⟨⟨(bR k.i),(bR k.w),(bR k.c)⟩,_,_,_,_,X5,V.le (Nat.le_succ _)⟩
 obtain⟨k,W,F,b,G,X,V⟩:=hJ
 exact xhc C S X V (by exact xfu j7) k (fun zz zz zz zz zz zz S X=>ret _ _ _ _ _ _ _ S X)
end
theorem mg2{a b:Value}:merged [] [(q "over",a),(q "unions",b)]=[(q "over",a),(q "unions",b)]:=by kernel_rfl
section
theorem ke{l:List Addr}(nd:l.Nodup)(ix:List Nat)(h:autoParam ((ix.all (·<l.length)&&decide ix.Nodup)=true) rf):(ix.map fun k=>l.getD k 0).Nodup:=by
 rw[Bool.and_eq_true,List.all_eq_true,decide_eq_true_eq] at h
 induction ix with
 |nil=>exact List.nodup_nil
 |cons a r ih=>
  have h2:=List.nodup_cons.mp h.2
  refine List.nodup_cons.mpr ⟨fun hm=>?_,ih ⟨fun x hx=>h.1 x (.tail _ hx),h2.2⟩⟩
  obtain⟨b,hb,e⟩:=List.mem_map.mp hm
  have ha:=of_decide_eq_true (h.1 a (.head _))
  have H5:=of_decide_eq_true (h.1 b (.tail _ hb))
  have e:l.getD b 0=l.getD a 0:=e
  rw[List.getD_eq_getElem?_getD,List.getD_eq_getElem?_getD,List.getElem?_eq_getElem ha,List.getElem?_eq_getElem H5] at e
  have e2:l[b]?=l[a]?:=by rw[List.getElem?_eq_getElem ha,List.getElem?_eq_getElem H5];exact congrArg some e
  exact h2.1 ((List.getElem?_inj H5 nd).mp e2▸hb)
theorem xg8{i di gl pl po cr wc ov uv x2:Addr}{od wo tV m9 o3 ox:Obj}{lim:Value}{nh nH As:Array Value}{pn cn Gl:Nat}{OZ:List Int}{aw:List (Addr×Obj)}{R:Prop}(S:St ai ae L s l ((po,listOf As Gl)::(x2,ox)::(cr,listOf nH cn)::(uv,emptyDict)::(ov,emptyDict)::(wc,wo)::(i,instObj 1442 di)::(di,od)::(pl,listOf nh pn)::(aw++(L+3,o3)::(L+2,m9)::(L+1,tV)::(429,tabObj #[])::(1077,tabObj #[])::[])))(hA:bG od al)(hI:lx true .none gl lim al)(gD:IntsAre nh.toList OZ)(lQ:nh.size≤10000)(h1:tV.data= .cell (some (.ref pl)))(h2:m9.data= .cell (some (.ref po)))(h3:o3.data= .cell none)(IS:wo.IsDictOf (PySem.strKind af w) (merged [] [(q "over",.ref ov),(q "unions",.ref uv)]))(n1:(wc==sysModules)=false)(n2:(ov==sysModules)=false)(n3:(uv==sysModules)=false)(hk:Lk ⟨L,i,di,gl,pl,po,cr,wc,ov,uv⟩ l)(hc:StrsAre nH.toList gQ)(hp:StrsAre As.toList eG)(h:∀W,Lw af w W ((po,listOf As Gl)::(x2,ox)::(cr,listOf nH cn)::(uv,emptyDict)::(ov,emptyDict)::(wc,wo)::(i,instObj 1442 di)::(di,od)::(pl,listOf nh pn)::(aw++(L+3,o3)::(L+2,m9)::(L+1,tV)::(429,tabObj #[])::(1077,tabObj #[])::[])) ⟨L,i,di,gl,pl,po,cr,wc,ov,uv⟩ [] true ⟨[],[],[],[]⟩→Lk ⟨L,i,di,gl,pl,po,cr,wc,ov,uv⟩ l→R):R:=by
 have nd:([po,cr,uv,ov,wc,i,di,pl,L+3,L+2,L+1,429,1077]:List Addr).Nodup:=
  (S.sub (ag:=[(po,listOf As Gl),(cr,listOf nH cn),(uv,emptyDict),(ov,emptyDict),(wc,wo),(i,instObj 1442 di),(di,od),(pl,listOf nh pn),(L+3,o3),(L+2,m9),(L+1,tV),(429,tabObj #[]),(1077,tabObj #[])]) (.cons_cons _ (.cons _ (.cons_cons _ (.cons_cons _ (.cons_cons _ (.cons_cons _ (.cons_cons _ (.cons_cons _ (.cons_cons _ (List.sublist_append_right _ _))))))))))).D
 refine h [429,1077,di,pl,L+3,ov,uv] ⟨⟨⟨⟨(BM (mH)),(List.nodup_cons.mp (ke nd [5,11,12,6,7,8,3,2])).1⟩,(bc (mH)),⟨od,al,lim,.none,(dK (mH)),hA,hI,.u⟩,List.forall_mem_cons.mpr ⟨⟨tabObj #[],(mT (mT (dK (mA (b5 (mH))))))⟩,List.forall_mem_cons.mpr ⟨⟨tabObj #[],(mT (mT (dK (mA (ch (mH))))))⟩,List.forall_mem_cons.mpr ⟨⟨od,(dK (mH))⟩,List.forall_mem_cons.mpr ⟨⟨listOf nh pn,(mT (dK (mH)))⟩,List.forall_mem_cons.mpr ⟨⟨o3,(mT (mT (dK (mA mH))))⟩,List.forall_mem_cons.mpr ⟨⟨emptyDict,(ch (mH))⟩,List.forall_mem_cons.mpr ⟨⟨emptyDict,(b5 (mH))⟩,List.forall_mem_nil _⟩⟩⟩⟩⟩⟩⟩,List.not_mem_nil⟩,mH,(mT (mH)),⟨#[],(mT (mT (dK (mA (b5 (mH)))))),.inl rfl⟩,⟨#[],(mT (mT (dK (mA (ch (mH)))))),.inl rfl⟩⟩,⟨tV,⟨(mT (mT (dK (mA (bc (mH)))))),(List.nodup_cons.mp (ke nd [10,11,12,6,7,8,3,2])).1⟩,h1⟩,⟨nh.toList,pn,OZ,(mT (dK (mH))),gD,(by rw[Array.length_toList];exact lQ)⟩,⟨m9,⟨(mT (mT (dK (mA (mT (mH)))))),(List.nodup_cons.mp (ke nd [9,11,12,6,7,8,3,2])).1⟩,h2⟩,⟨As,Gl,⟨mH,(List.nodup_cons.mp (ke nd [0,11,12,6,7,8,3,2])).1⟩,hp⟩,⟨o3,none,(mT (mT (dK (mA mH)))),h3⟩,⟨nH,cn,⟨(bc (mH)),(List.nodup_cons.mp (ke nd [1,11,12,6,7,8,3,2])).1⟩,hc⟩,⟨⟨wo,_,(eg (mH)),IS,(mg2▸.cons rfl (.cons rfl .nil))⟩,n1⟩,(List.nodup_cons.mp (ke nd [4,11,12,6,7,8,3,2])).1,⟨⟨emptyDict,[],(ch (mH)),lB,.nil⟩,n2⟩,⟨⟨emptyDict,[],(b5 (mH)),lB,.nil⟩,n3⟩,List.forall_mem_cons.mpr ⟨⟨(b5 (mH)),(List.nodup_cons.mp (ke nd [7,11,12,6])).1⟩,List.forall_mem_cons.mpr ⟨⟨(ch (mH)),(List.nodup_cons.mp (ke nd [8,11,12,6])).1⟩,List.forall_mem_cons.mpr ⟨⟨(eg (mH)),(List.nodup_cons.mp (ke nd [3,11,12,6])).1⟩,List.forall_mem_cons.mpr ⟨⟨(BM (mH)),(List.nodup_cons.mp (ke nd [2,11,12,6])).1⟩,List.forall_mem_nil _⟩⟩⟩⟩,ke nd [7,8,3,2]⟩ hk
end
section
theorem xg9{sa:Addr}{ns:List Int}{o1 o2 o3:Obj}{K:Flow→Shared→Prop}(C:Cx gx aH A ae [] (ew L) L (dp+11) (un+33))(S:St ai ae L s [(q "script",.ref sa)] ((L+3,o3)::(L+2,o2)::(L+1,o1)::(429,tabObj #[])::(1077,tabObj #[])::[]))(Z:Bs gx)(h1:o1.data= .cell none)(h2:o2.data= .cell none)(h3:o3.data= .cell none)(hb:gx.gh.IsList sa ba)(hi:IntsAre ba.toList ns)(hz:ba.size≤100)(ret:∀(a:Ad) G W F b s' l' ag,St ai ae L s' l' ag→Lw af gx.gw W ag a F b G→K (.ret (.bool true)) s'):wpAny (model af gx.gw) A (execs mx (ew L)) K E s:=by
 refine ec ?_
 intro Kz
 refine aX<|aY C S (xde _) ?_
 exists aU S ah ?_
 refine bh C S<|xiA C S hb hi hz (fun pl nh pn OZ aw s S gD lQ=>Ph S BI (fun o=> .tail (Up.app (.tail (.tail .head)))) h1 (fun tV s H6 S=>ec ?_))
 intro Kz
 refine aX<|iJ C S (aj (aj (aj (aj (aj (pU _)))))) (Q9 _)<|spliced_more ?_
 exists bf S (fun bp s S=>?_)
 refine spliced_none<|iE C S<|xeH C S (fun ix dx od al gl s S hA hIA l1 l2=>aW S (fun s S=>ec ?_))
 intro Kz
 refine aX ?_
 exists Pa C S (by kernel_rfl) (by kernel_rfl) (by simp) (by decide) (fun wd s S nwd=>?_)
 refine pairTrees_cons_walk ?_
 exists bE S (fun bO s S=>?_)
 refine i5 C S (fun ov s S lov nov=>pairTrees_cons_walk ?_)
 exists bE S (fun cu s S=>?_)
 refine i5 C S (fun uv s S luv nuv=>pairTrees_nil_walk<|gJ (d:=[(q "over",.ref ov),(q "unions",.ref uv)]) (bW S (fun zz=>(Up.tail (Up.tail Up.head))) ⟨strKind_is _ _ _ _,rfl,strKind_is _ _ _ _,rfl,trivial⟩ (fun wo s IS S=>aW S (fun s S=>ec ?_))))
 intro Kz
 refine aX ?_
 exists List_<|be S (fun fe s S=>be S (fun ej s S=>be S (fun ed s S=>be S (fun mj s S=>cz S (fun ml s S=>?_)))))
 refine dm S aG (fun x9 s S BK=>aW S (fun s S=>ec ?_))
 intro Kz
 refine aX<|wpAny_BinOp ?_
 exists ap S ah<|List_<|be S (fun VQ s S=>be S (fun PK s S=>be S (fun GI s S=>cz S (fun AC s S=>?_))))
 refine dm S aG (fun x14 s S xjX=>?_)
 refine me S (mT mH) mH (by rw[sizeLine_eq];exact Nat.le_of_ble_eq_true rfl) (fun po s S lpo=>?_)
 refine Ph S xeb (fun o=> .tail (.tail (.tail (.tail (.tail (.tail (.tail (.tail (.tail (Up.app (.tail .head))))))))))) h2 (fun m9 s H7 S=>xg8 (i:=ix) (di:=dx) (gl:=gl) (pl:=pl) (po:=po) (cr:=x9) (wc:=wd) (ov:=ov) (uv:=uv) S hA hIA gD lQ H6 H7 h3 IS nwd nov nuv ⟨am (am ah),am ah,ah⟩ ?_ ?_ fun W X k=>?_)
 ·exact .cons _ _ (.cons _ _ (.cons _ _ (.cons _ _ (.cons _ _ (.nil)))))
 ·exact .cons _ _ (.cons _ _ (.cons _ _ (.cons _ _ (.cons _ _ (.cons _ _ (.cons _ _ (.cons _ _ (.cons _ _ (.nil)))))))))
 exact xhb (a:=⟨L,ix,dx,gl,pl,po,x9,wd,ov,uv⟩) C S Z X cI.nil k (fun W F b G s l aa S X=>ret _ _ _ _ _ _ _ _ S X)
end
end
noncomputable def dL:DefRec:=⟨q "law",md (sA 134),mx,jP,⟨1275,0,1317,15⟩⟩
theorem xao:defOf q0 rr.name=some (dL,[]):=by kernel_rfl
theorem xaq:rr.prog.theDef rr.name=some (dL.params,dL.body,dL.scope):=by kernel_rfl
theorem xap:kwWritten? dL.params.kwonlyargs dL.params.kw_defaults=some []:=by kernel_rfl
theorem xdc(P:Params):nsIn (KF P) mainGlobals (q "law")=some (some (.ref 1507)):=by kernel_rfl
theorem Hh:∀n,cellsFrom n jP.names []=[(q "as_union",n+2),(q "pool_of",n+1),(q "pips",n)]:=by intro n;kernel_rfl
noncomputable def RH(P:Params):Option FuncData:=match (KF P).lookup 1507 with|some ⟨_,_,.func fd,_⟩=>some fd|_=>none
theorem xcN(P:Params):(RH P).map (·.code)=some (.ref 1506):=by kernel_rfl
set_option tactic.hygienic true in
theorem oL (P:Params) {h:Heap} (X:(KF P).In h) {o:Obj} {fd:FuncData} (ho:h.get? 1507=some o) (hd:o.data= .func fd):fd.code= .ref 1506:=by
 have e:=xcN P
 unfold RH at e
 split at e
 ·rename_i hk
  have z:=X _ _ hk
  rw[ho] at z
  cases z
  cases hd
  exact Option.some.inj e
 ·cases e
theorem Yv(v:Value):bindArgs (docDef dL.name dL.params dL.body dL.scope pm cd doc) ⟨[v],[]⟩=pure [(q "script",v)]:=by kernel_rfl
theorem xef{w:World}{ai aL:Shared}{mg mb:Str→Option Value}{T:Top q0 (looseW q0 loose) (ExcName.means ai.heap) mg mb aL.heap}(KX:(KF w.params).In aL.heap)(kT:TabsAt [(433,429),(1081,1077)] aL.heap){o:Obj}{pm cd doc:Value}(ho:aL.heap.get? 1507=some o)(hd:o.data= .func (docDef dL.name dL.params dL.body dL.scope pm cd doc))(gT:aL.heap.CodeRec cd dL.name){sa:Addr}{ba:Array Value}{ns:List Int}(hl:aL.heap.IsList sa ba)(hi:IntsAre ba.toList ns)(hz:ba.size≤100){R:Result→Shared→Prop}(ret:∀s',(∀b o,(ghostOf aL.heap [(433,429),(1081,1077)]).get? b=some o→s'.heap.get? b=some o)→s'={aL with heap:=s'.heap,toks:=s'.toks}→GrownAll [(433,429),(1081,1077)] s'.heap→R (.ok (.ret (.bool true))) s'):
  codeAny (model pw w) callerA (.call (.ref 1507) ⟨[.ref sa],[]⟩) R aL:=by
 have ec:=oL w.params KX ho hd
 have ec:cd= .ref 1506:=ec
 subst ec
 refine call_cellsN (by decide) ho hd T.nolimit gT (Yv _) (fun x hx=>?_) (by show((cellsFrom 0 jP.names []).map (·.1)).Nodup;rw[Hh];decide+kernel) (fun dD tk cells F N X0=>?_) (by kernel_rfl) (by kernel_rfl) (by kernel_rfl)
 ·rw[List.mem_singleton.mp hx];exact .inl (by kernel_rfl)
 have l0:=ghost_lt kT F
 have X':=ghost_K kT KX (by kernel_rfl)
 have T':=ghost_top kT T
 have N':=ghost_news kT F N
 have F':=ghost_fr kT F
 have L':=ghost_list kT hl
 have Y:CellsAre (bindC (envOfC (q "law") jP aL.heap.objs.size 1507 (.ref 1506)).kindOf [(q "script",.ref sa)] fun zz=>none) (cellsFrom (aL.heap.objs.size+1) jP.names []) cells:=X0
 clear X0
 rw[Hh] at Y
 obtain⟨o3,rest,rfl,h3,Y2⟩:∃o rest,cells=(aL.heap.objs.size+1+2,o)::rest∧o.data= .cell (bindC (envOfC (q "law") jP aL.heap.objs.size 1507 (.ref 1506)).kindOf [(q "script",.ref sa)] (fun zz=>none) (q "as_union"))∧CellsAre (bindC (envOfC (q "law") jP aL.heap.objs.size 1507 (.ref 1506)).kindOf [(q "script",.ref sa)] fun zz=>none) [(q "pool_of",aL.heap.objs.size+1+1),(q "pips",aL.heap.objs.size+1)] rest:=by
  cases Y with|cons h r=>exact⟨_,_,rfl,h,r⟩
 obtain⟨o2,o1,rfl,h2,h1⟩:=Y2.two
 have e1:envOfC dL.name dL.scope aL.heap.objs.size 1507 (.ref 1506)=ew aL.heap.objs.size:=by
  show envX (q "law") jP aL.heap.objs.size 1507 (.ref 1506) (cellsFrom (aL.heap.objs.size+1) jP.names [])=_
  rw[Hh]
 have F2:Fr (ghostOf aL.heap [(433,429),(1081,1077)]) aL.heap.objs.size dD (dY [(q "script",.ref sa)]):=by
  have zz:bindL (envOfC (q "law") jP aL.heap.objs.size 1507 (.ref 1506)).kindOf [(q "script",.ref sa)] (fun zz=>none)=dY [(q "script",.ref sa)]:=
   AX _ [(q "script",.ref sa)] []
  rw[←zz];exact F'
 have c3:o3.data= .cell none:=by rw[h3];exact congrArg Data.cell (by kernel_rfl)
 have c2:o2.data= .cell none:=by rw[h2];exact congrArg Data.cell (by kernel_rfl)
 have c1:o1.data= .cell none:=by rw[h1];exact congrArg Data.cell (by kernel_rfl)
 have a1:429<aL.heap.objs.size:=l0 (429,_) (.head _)
 have a2:1077<aL.heap.objs.size:=l0 (1077,_) (.tail _ (.head _))
 clear hd gT ho F F' Y2 h1 h2 h3
 show wpAny (model pw w) (callerA.deeper (envOfC dL.name dL.scope aL.heap.objs.size 1507 (.ref 1506))) (execs mx (envOfC dL.name dL.scope aL.heap.objs.size 1507 (.ref 1506))) _ _ _
 rw[e1]
 refine xg9 (ai:=aL) (dp:=0) (un:=0) (aH:=callerA) (gx:=⟨w,_,_,_,_,_,ghostOf aL.heap [(433,429),(1081,1077)]⟩) (o1:=o1) (o2:=o2) (o3:=o3) ⟨ghost_below kT,X',T',rfl,rfl,by kernel_rfl,rfl,?_,?_⟩ ⟨F2,N',?_,rfl⟩ ⟨X',T'⟩ c1 c2 c3 L' hi hz (fun a G W F b s' l' ag S X=>?_)
 ·show callerA.depth+1+(0+11)<recursionLimit
  decide+kernel
 ·show callerA.units+3+(0+33)<cLine
  decide+kernel
 ·show([aL.heap.objs.size+1+2,aL.heap.objs.size+1+1,aL.heap.objs.size+1,429,1077]:List Addr).Nodup
  generalize aL.heap.objs.size=n at a1 a2
  have e1:(429:Addr)≠1077:=by decide
  simp only[List.nodup_cons,List.mem_cons,List.not_mem_nil,or_false,not_or,List.nodup_nil,and_true]
  refine⟨⟨?_,?_,?_,?_⟩,⟨?_,?_,?_⟩,⟨?_,?_⟩,e1,not_false⟩<;>refine(?_:(_:Nat)≠_)<;>omega
 ·obtain⟨p1,t1,_⟩:=X.Y.t1
  obtain⟨p2,t2,_⟩:=X.Y.t2
  exact ret s' S.F.keep S.R ⟨.of S.N t1,.of S.N t2,trivial⟩
theorem xjv:WalkO q0 loose (fun mg h=>XL q0 [] mg h) HK.says rr.toRowW dL [] (fun f vs=>PySem.call f vs):=by
 intro w ai aL mg mb G Y fa o pm cd doc dV kV ho hd gT hD hmg hg args vals as xdM xdz hrd hwl Iu
 have KX:=km_in_of (K:=KF) (as:=KA) (e:=AN) (ts:=[429,1077]) Y
 have tabs:=km_tabs_of (K:=KF) (as:=KA) (e:=AN) (ts:=[429,1077]) Y
 refine Ground.open G ?_
 intro T B D TE TW
 have kT:TabsAt [(433,429),(1081,1077)] aL.heap:=List.forall_mem_cons.mpr ⟨⟨codeHd_of_K KX (by kernel_rfl),tabs 429 (by simp)⟩,List.forall_mem_cons.mpr ⟨⟨codeHd_of_K KX (by kernel_rfl),tabs 1077 (by simp)⟩,fun zz h=>nomatch h⟩⟩
 have e1:=mg_of KX T.g (xdc w.params)
 have e2:mg (q "law")=some (.ref fa):=hmg
 rw[e2] at e1
 cases e1
 have he:=Dflts.none hD rfl
 subst he
 have he:=Dflts.noKw hD
 subst he
 wrow_args xdM xdz hrd hwl Iu
 rename IntsAre _ _=>hi
 rename Heap.IsList _ _ _=>hl
 rename¬_=>hz
 refine enter_call<|kn_post kT (fun zz zz=>rfl)<|xef (T:=T) KX kT ho (fd_plain hd) gT hl hi ?_ (fun s' k R Gr=>?_)
 ·have e:=hi.length
  have vL:¬(63:Int)<(List.length _:Int):=hz
  rw[List.size_toArray,e]
  exact xfH vL
 ·refine⟨⟨.inl ⟨_,.bool true,[],rfl,fun zz=>rfl,.bool true,?_,?_⟩,k,?_,?_⟩,Gr⟩
  ·first|rfl|decide|wrow_post
  ·exact fun zz=>⟨List.nodup_nil,fun zz h=>by cases h⟩
  ·rw[R]
  ·rw[R];exact hg
theorem wit:(PySem.Challenge.rw_pq1369_01.row).toRowW.promised:=by
 w_witness2
theorem fin(Po:rr.wellSaid=true):rr.Holds:=Ie Po wit dL [] xao xaq xap xjv
theorem xjH:PySem.Challenge.rw_pq1369_01.Holds:=holds_law sd fin
end
end Mine
theorem PySem.Challenge.cw_pq1369_01_holds : PySem.Challenge.rw_pq1369_01.Holds := by
  exact Mine.xjH
