import PyProof.Rows.All
import Wide.All
import OpenK.AllK
import Wide.FinOn
import PySem.Challenge.RW_og0029_01
open PySem PySem.W PyProof.Rows
set_option Elab.async false
set_option maxRecDepth 100000
set_option linter.all false
set_option compiler.extract_closed false
set_option genInjectivity false
set_option genSizeOf false
set_option bootstrap.genMatcherCode false
open PySem.Calls
set_option maxHeartbeats 0
namespace Hd
noncomputable abbrev pw:Program:=PySem.Challenge.pw_og0029_01
noncomputable abbrev rl:=PySem.Challenge.rw_og0029_01
noncomputable abbrev pr:Program:=rl.row.toRowW.1
noncomputable def Cr:List Stmt->Nat->Stmt
 |x::_,0=>x
 |_::r,k+1=>Cr r k
 | [],_=> .Pass ⟨0,0,0,0⟩
noncomputable def S(i:Nat):Stmt:=Cr pw.main.body i
noncomputable def M(i j:Nat):Stmt:=match S i with
 | .ClassDef _ _ _ b .. =>Cr b j
 |x=>x
noncomputable def s(x:Str)(t:Nat):Value:= .str x t
noncomputable def n(k:Int)(t:Nat):Value:= .int k t
noncomputable def r(a:Nat):Value:= .ref a
noncomputable def b(x:Bool):Value:= .bool x
noncomputable def o(v:Value):Option Value:=some v
noncomputable def e(P:Params)(x:Str)(t:Nat)(v:Value):DictEntry:=⟨PyData.keyHash P x,.str x t,v⟩
noncomputable def t0:Obj:={cls:= .type "tuple",data:= .seq #[]}
noncomputable def f0:Obj:={cls:= .none,data:= .fields #[]}
noncomputable def tv(v:Array Value):Obj:={cls:= .type "tuple",data:= .seq v}
noncomputable def CZ:List Str->Nat->List Value
 | [],_=>[]
 |x::l,t=> .str x t::CZ l (t+1)
noncomputable def tn(l:List Str)(t:Nat):Obj:={cls:= .type "tuple",data:= .seq ⟨CZ l t⟩}
noncomputable def C0:List (Int×Int×Nat)->List Value
 | []=>[]
 |x::l=> .int x.1 0:: .int x.2.1 0:: .ref x.2.2::C0 l
noncomputable def fl(l:List (Int×Int×Nat)):Obj:={cls:= .none,data:= .fields ⟨C0 l⟩}
noncomputable def dc(l:Array DictEntry)(ep:Nat):Obj:={cls:= .type "dict",data:= .dict l ep}
noncomputable def cx(x q:Str)(t:Nat)(line argc k:Int)(a:Nat)(y:Bool)(v1 v2 v3 v4:Value)(u:Int):Obj:=
 {cls:= .type "code",data:= .fields #[.str x t,.str q (t+1),.str "/claim/cut.py" (t+2),.int line 0,.int argc 0,.int 0 0,.int 0 0,.int k 0,.ref a,.bool y,.int 181 0,.ref (a+1),v1,v2,v3,v4,.int u 0,.int line 0,.str "/claim/cut.py" (u.toNat+1)]}
noncomputable def c1(x q:Str)(t:Nat)(line argc:Int)(a:Nat)(u:Int):Obj:=cx x q t line argc 3 a true .none (.ref (a+2)) (.ref (a+3)) (.ref (a+4)) u
noncomputable def c2(x q:Str)(t:Nat)(line:Int)(a:Nat)(u:Int):Obj:=cx x q t line 0 0 a false .none .none .none .none u
noncomputable def fd(st:Stmt)(q:Str)(g:Addr)(df md cd:Value):FuncData:=match st with
 | .FunctionDef x a y _ _ _ sc _ _ _=>{name:=x,qualname:=q,params:=a,body:= .stmts y,scope:=sc,globals:=g,closure:=[],defaults:=df,kwdefaults:= .none,pyModule:=md,code:=cd}
 |_=>{name:=q,qualname:=q,params:=⟨[],[],none,[],[],none,[]⟩,body:= .stmts [],scope:=pw.main.scope,globals:=g,closure:=[],defaults:=df,kwdefaults:= .none}
noncomputable def g0(st:Stmt)(q:Str):Obj:={cls:= .none,data:= .func (fd st q 0 .none .none .none)}
noncomputable def g1(st:Stmt)(q m:Str)(t c:Nat)(df:Value):Obj:={cls:= .type "function",data:= .func (fd st q 3 df (.str m t) (.ref c))}
noncomputable def C1:Obj:=c2 "<module>" "<module>" 182 1 11 185
noncomputable def C3:Obj:={cls:=(.type "frame"),slots:= #[(o (r 13)),(o (r 3)),(o (r 3)),none,(o (s "__main__" 164)),none,(o (r 0))]}
noncomputable def C4:List (Int×Int×Nat):=[(1,0,20),(5,0,27),(18,0,69),(32,0,111),(46,0,151),(60,0,193),(76,0,231),(82,0,252),(101,0,292),(115,0,332),(129,0,372),(136,0,393),(145,0,421),(147,0,428),(153,0,433),(159,0,438),(163,0,445),(167,0,452),(179,0,459),(186,0,466),(202,0,473),(209,0,478),(215,0,483),(217,0,488),(228,0,493),(233,0,498),(244,0,505),(248,0,512),(250,0,519),(252,0,526),(300,0,565),(305,0,570),(322,0,577),(328,0,584),(362,0,624),(365,0,631),(371,0,652),(376,0,663),(379,0,668),(383,0,675),(387,0,680),(389,0,687),(391,0,694),(395,0,699),(397,0,704),(401,0,709),(403,0,716),(420,0,723),(423,0,730),(426,0,737),(445,0,774),(452,0,781),(459,0,788),(461,0,795),(464,0,802),(471,0,811),(498,0,816),(509,0,821),(512,0,826),(517,0,831),(529,0,836),(545,0,843),(547,0,848),(566,0,853),(580,0,858)]
noncomputable def o2(P:Params):Obj:={cls:= .none,data:= .dict #[e P "type.__subclasses__.Exception.0" 1048 (n 643 0),e P "type.__subclasses__.Exception.n" 1049 (n 1 0)] 2}
noncomputable def e3(P:Params):List DictEntry:=[e P "__doc__" 166 .none,e P "__package__" 167 .none,e P "__loader__" 168 (.builtin "__main__.__loader__#opaque"),e P "__spec__" 169 .none,e P "__annotations__" 170 (r 6),e P "__builtins__" 171 (r 4),e P "__file__" 173 (s "/claim/cut.py" 172),e P "__cached__" 174 .none,e P "_wall" 193 (r 21),e P "Var" 247 (r 59),e P "Lit" 301 (r 101),e P "App" 354 (r 141),e P "Lam" 408 (r 183),e P "Let" 462 (r 221),e P "Alt" 495 (r 242),e P "Case" 554 (r 282),e P "Con" 607 (r 322),e P "Prim" 660 (r 362),e P "CoreProgram" 693 (r 383),e P "Signature" 735 (r 411),e P "hopeful" 742 (r 422),e P "both" 751 (r 429),e P "either" 757 (r 434),e P "without" 763 (r 439),e P "extended" 772 (r 446),e P "needed" 780 (r 453),e P "prim_needs" 790 (r 460),e P "call_needs" 802 (r 467),e P "case_needs" 812 (r 474),e P "signature_of" 818 (r 479),e P "functions_in" 824 (r 484),e P "settled" 830 (r 489),e P "bound_env" 836 (r 494),e P "with_binds" 842 (r 499),e P "let_needs" 851 (r 506),e P "signatures" 860 (r 513),e P "is_done" 867 (r 520),e P "Forcer" 920 (r 557),e P "forced" 926 (r 566),e P "same_head" 934 (r 571),e P "paired" 946 (r 578),e P "Alike" 1010 (r 614),e P "alike" 1018 (r 625),e P "LazyError" 1051 (r 643),e P "CoreError" 1067 (r 656),e P "KEY_WORDS" 1083 (r 659),e P "NEVER_BARE" 1085 (s "()| " 1084),e P "is_number" 1091 (r 664),e P "is_bare" 1097 (r 669),e P "name_text" 1104 (r 676),e P "names_text" 1110 (r 681),e P "literal_text" 1118 (r 688),e P "key_text" 1125 (r 695),e P "binds_text" 1131 (r 700),e P "case_text" 1137 (r 705),e P "row_text" 1143 (r 710),e P "inner_text" 1151 (r 717),e P "core_text" 1158 (r 724),e P "base_of" 1168 (r 731),e P "Fresh" 1217 (r 764),e P "_law_pool" 1230 (r 775),e P "_law_take" 1239 (r 782),e P "_law_one" 1247 (r 789),e P "_law_new" 1255 (r 796),e P "_law_tops" 1263 (r 803),e P "_law_flags" 1272 (r 804),e P "_law_expr" 1278 (r 812),e P "_law_strict" 1284 (r 817),e P "_law_ways" 1290 (r 822),e P "_law_reached" 1296 (r 827),e P "_law_dead" 1302 (r 832),e P "_law_sure" 1308 (r 837),e P "_law_is_done" 1315 (r 844),e P "_law_forced" 1321 (r 849),e P "_law_call" 1327 (r 854),e P "law" 1333 (r 859)]
noncomputable def De(P:Params):List Obj:=[boot_o_0 P,
boot_o_1 P,
o2 P,
dc ⟨e P "__name__" 165 (s "law_og0029_01" 1218)::e3 P⟩ 77,
boot_o_4 P,
boot_o_5 P,
boot_o_6 P,
boot_o_7 P,
boot_o_8 P,
boot_o_9 P,
boot_o_10 P,
t0,
fl C4,
C1,
C3,
t0,
f0,
tn ["k"] 190,
t0,
g0 (S 0) "_wall",
c1 "_wall" "_wall" 187 1 1 15 191,
g1 (S 0) "_wall" "__main__" 164 20 .none,
t0,
{cls:=(.type "builtin_function_or_method"),data:= .fields #[.builtin "type.__prepare__",.type "type"]},
dc #[e P "__module__" 203 (s "lazycore.core" 194),e P "__qualname__" 205 (s "Var" 204),e P "__firstlineno__" 207 (n 5 206),e P "__init__" 215 (r 35),e P "groups" 222 (r 42),e P "parts" 229 (r 49),e P "rebuilt" 238 (r 56),e P "__static_attributes__" 240 (r 57)] 8,
t0,
fl [(7,4,34),(10,4,41),(13,4,48),(16,4,55)],
c2 "Var" "Var" 198 5 25 201,
{cls:=(.type "frame"),slots:= #[(o (r 27)),(o (r 3)),(o (r 24)),none,(o (s "lazycore.core" 194)),none,(o (r 0))]},
t0,
f0,
tn ["self","name"] 211,
t0,
g0 (M 2 0) "Var.__init__",
c1 "__init__" "Var.__init__" 208 7 2 29 213,
g1 (M 2 0) "Var.__init__" "lazycore.core" 194 34 .none,
t0,
f0,
tn ["self"] 219,
t0,
g0 (M 2 1) "Var.groups",
c1 "groups" "Var.groups" 216 10 1 36 220,
g1 (M 2 1) "Var.groups" "lazycore.core" 194 41 .none,
t0,
f0,
tn ["self"] 226,
t0,
g0 (M 2 2) "Var.parts",
c1 "parts" "Var.parts" 223 13 1 43 227,
g1 (M 2 2) "Var.parts" "lazycore.core" 194 48 .none,
t0,
f0,
tn ["self","groups","parts"] 233,
t0,
g0 (M 2 3) "Var.rebuilt",
c1 "rebuilt" "Var.rebuilt" 230 16 3 50 236,
g1 (M 2 3) "Var.rebuilt" "lazycore.core" 194 55 .none,
tn ["name"] 239,
dc #[e P "__module__" 203 (s "lazycore.core" 194),e P "__firstlineno__" 207 (n 5 206),e P "__init__" 215 (r 35),e P "groups" 222 (r 42),e P "parts" 229 (r 49),e P "rebuilt" 238 (r 56),e P "__static_attributes__" 240 (r 57),e P "__dict__" 242 (r 60),e P "__weakref__" 244 (r 61),e P "__doc__" 245 .none] 4,
{cls:=(.type "type"),data:= .cls {name:="Var",bases:=[(.type "object")],mro:=[(r 59),(.type "object")],ns:=58,qualname:="Var"},slots:= #[none,none,(o (s "Var" 196)),(o (s "Var" 204)),(o (.builtin "object.__new__")),(o (b true))]}]
noncomputable def eK(P:Params):List Obj:=[{cls:=(.type "getset_descriptor"),data:= .fields #[s "__dict__" 241,r 59,.builtin "function.__dict__",.builtin "function.__dict__#set"]},
{cls:=(.type "getset_descriptor"),data:= .fields #[s "__weakref__" 243,r 59,.builtin "ExceptionGroup.__weakref__",.none]},
{cls:=(.type "super"),data:= .fields #[r 59,r 59,r 59]},
{cls:=(.type "builtin_function_or_method"),data:= .fields #[.builtin "object.__init_subclass__",r 59]},
t0,
{cls:=(.type "builtin_function_or_method"),data:= .fields #[.builtin "type.__prepare__",.type "type"]},
dc #[e P "__module__" 255 (s "lazycore.core" 194),e P "__qualname__" 257 (s "Lit" 256),e P "__firstlineno__" 259 (n 18 258),e P "__init__" 268 (r 77),e P "groups" 275 (r 84),e P "parts" 282 (r 91),e P "rebuilt" 291 (r 98),e P "__static_attributes__" 294 (r 99)] 8,
t0,
fl [(20,4,76),(24,4,83),(27,4,90),(30,4,97)],
c2 "Lit" "Lit" 250 18 67 253,
{cls:=(.type "frame"),slots:= #[(o (r 69)),(o (r 3)),(o (r 66)),none,(o (s "lazycore.core" 194)),none,(o (r 0))]},
t0,
f0,
tn ["self","kind","value"] 263,
t0,
g0 (M 3 0) "Lit.__init__",
c1 "__init__" "Lit.__init__" 260 20 3 71 266,
g1 (M 3 0) "Lit.__init__" "lazycore.core" 194 76 .none,
t0,
f0,
tn ["self"] 272,
t0,
g0 (M 3 1) "Lit.groups",
c1 "groups" "Lit.groups" 269 24 1 78 273,
g1 (M 3 1) "Lit.groups" "lazycore.core" 194 83 .none,
t0,
f0,
tn ["self"] 279,
t0,
g0 (M 3 2) "Lit.parts",
c1 "parts" "Lit.parts" 276 27 1 85 280,
g1 (M 3 2) "Lit.parts" "lazycore.core" 194 90 .none,
t0,
f0,
tn ["self","groups","parts"] 286,
t0,
g0 (M 3 3) "Lit.rebuilt",
c1 "rebuilt" "Lit.rebuilt" 283 30 3 92 289,
g1 (M 3 3) "Lit.rebuilt" "lazycore.core" 194 97 .none,
tn ["kind","value"] 292,
dc #[e P "__module__" 255 (s "lazycore.core" 194),e P "__firstlineno__" 259 (n 18 258),e P "__init__" 268 (r 77),e P "groups" 275 (r 84),e P "parts" 282 (r 91),e P "rebuilt" 291 (r 98),e P "__static_attributes__" 294 (r 99),e P "__dict__" 296 (r 102),e P "__weakref__" 298 (r 103),e P "__doc__" 299 .none] 4,
{cls:=(.type "type"),data:= .cls {name:="Lit",bases:=[(.type "object")],mro:=[(r 101),(.type "object")],ns:=100,qualname:="Lit"},slots:= #[none,none,(o (s "Lit" 248)),(o (s "Lit" 256)),(o (.builtin "object.__new__")),(o (b true))]},
{cls:=(.type "getset_descriptor"),data:= .fields #[s "__dict__" 295,r 101,.builtin "function.__dict__",.builtin "function.__dict__#set"]},
{cls:=(.type "getset_descriptor"),data:= .fields #[s "__weakref__" 297,r 101,.builtin "ExceptionGroup.__weakref__",.none]},
{cls:=(.type "super"),data:= .fields #[r 101,r 101,r 101]},
{cls:=(.type "builtin_function_or_method"),data:= .fields #[.builtin "object.__init_subclass__",r 101]},
t0,
{cls:=(.type "builtin_function_or_method"),data:= .fields #[.builtin "type.__prepare__",.type "type"]},
dc #[e P "__module__" 309 (s "lazycore.core" 194),e P "__qualname__" 311 (s "App" 310),e P "__firstlineno__" 313 (n 32 312),e P "__init__" 322 (r 119),e P "groups" 329 (r 126),e P "parts" 335 (r 131),e P "rebuilt" 344 (r 138),e P "__static_attributes__" 347 (r 139)] 8,
t0,
fl [(34,4,118),(38,4,125),(41,4,130),(44,4,137)],
c2 "App" "App" 304 32 109 307,
{cls:=(.type "frame"),slots:= #[(o (r 111)),(o (r 3)),(o (r 108)),none,(o (s "lazycore.core" 194)),none,(o (r 0))]},
t0,
f0,
tn ["self","fun","args"] 317,
t0,
g0 (M 4 0) "App.__init__",
c1 "__init__" "App.__init__" 314 34 3 113 320,
g1 (M 4 0) "App.__init__" "lazycore.core" 194 118 .none]
noncomputable def fZ(P:Params):List Obj:=[t0,
f0,
tn ["self"] 326,
t0,
g0 (M 4 1) "App.groups",
c1 "groups" "App.groups" 323 38 1 120 327,
g1 (M 4 1) "App.groups" "lazycore.core" 194 125 .none,
t0,
f0,
g0 (M 4 2) "App.parts",
cx "parts" "App.parts" 330 41 1 3 127 true .none .none .none (r 129) 333,
g1 (M 4 2) "App.parts" "lazycore.core" 194 130 .none,
t0,
f0,
tn ["self","groups","parts"] 339,
t0,
g0 (M 4 3) "App.rebuilt",
c1 "rebuilt" "App.rebuilt" 336 44 3 132 342,
g1 (M 4 3) "App.rebuilt" "lazycore.core" 194 137 .none,
tn ["args","fun"] 345,
dc #[e P "__module__" 309 (s "lazycore.core" 194),e P "__firstlineno__" 313 (n 32 312),e P "__init__" 322 (r 119),e P "groups" 329 (r 126),e P "parts" 335 (r 131),e P "rebuilt" 344 (r 138),e P "__static_attributes__" 347 (r 139),e P "__dict__" 349 (r 142),e P "__weakref__" 351 (r 143),e P "__doc__" 352 .none] 4,
{cls:=(.type "type"),data:= .cls {name:="App",bases:=[(.type "object")],mro:=[(r 141),(.type "object")],ns:=140,qualname:="App"},slots:= #[none,none,(o (s "App" 302)),(o (s "App" 310)),(o (.builtin "object.__new__")),(o (b true))]},
{cls:=(.type "getset_descriptor"),data:= .fields #[s "__dict__" 348,r 141,.builtin "function.__dict__",.builtin "function.__dict__#set"]},
{cls:=(.type "getset_descriptor"),data:= .fields #[s "__weakref__" 350,r 141,.builtin "ExceptionGroup.__weakref__",.none]},
{cls:=(.type "super"),data:= .fields #[r 141,r 141,r 141]},
{cls:=(.type "builtin_function_or_method"),data:= .fields #[.builtin "object.__init_subclass__",r 141]},
t0,
{cls:=(.type "builtin_function_or_method"),data:= .fields #[.builtin "type.__prepare__",.type "type"]},
dc #[e P "__module__" 362 (s "lazycore.core" 194),e P "__qualname__" 364 (s "Lam" 363),e P "__firstlineno__" 366 (n 46 365),e P "__init__" 375 (r 159),e P "groups" 382 (r 166),e P "parts" 389 (r 173),e P "rebuilt" 398 (r 180),e P "__static_attributes__" 401 (r 181)] 8,
t0,
fl [(48,4,158),(52,4,165),(55,4,172),(58,4,179)],
c2 "Lam" "Lam" 357 46 149 360,
{cls:=(.type "frame"),slots:= #[(o (r 151)),(o (r 3)),(o (r 148)),none,(o (s "lazycore.core" 194)),none,(o (r 0))]},
t0,
f0,
tn ["self","params","body"] 370,
t0,
g0 (M 5 0) "Lam.__init__",
c1 "__init__" "Lam.__init__" 367 48 3 153 373,
g1 (M 5 0) "Lam.__init__" "lazycore.core" 194 158 .none,
t0,
f0,
tn ["self"] 379,
t0,
g0 (M 5 1) "Lam.groups",
c1 "groups" "Lam.groups" 376 52 1 160 380,
g1 (M 5 1) "Lam.groups" "lazycore.core" 194 165 .none,
t0,
f0,
tn ["self"] 386,
t0,
g0 (M 5 2) "Lam.parts",
c1 "parts" "Lam.parts" 383 55 1 167 387,
g1 (M 5 2) "Lam.parts" "lazycore.core" 194 172 .none,
t0,
f0,
tn ["self","groups","parts"] 393,
t0,
g0 (M 5 3) "Lam.rebuilt",
c1 "rebuilt" "Lam.rebuilt" 390 58 3 174 396]
noncomputable def qH(P:Params):List Obj:=[g1 (M 5 3) "Lam.rebuilt" "lazycore.core" 194 179 .none,
tn ["body","params"] 399,
dc #[e P "__module__" 362 (s "lazycore.core" 194),e P "__firstlineno__" 366 (n 46 365),e P "__init__" 375 (r 159),e P "groups" 382 (r 166),e P "parts" 389 (r 173),e P "rebuilt" 398 (r 180),e P "__static_attributes__" 401 (r 181),e P "__dict__" 403 (r 184),e P "__weakref__" 405 (r 185),e P "__doc__" 406 .none] 4,
{cls:=(.type "type"),data:= .cls {name:="Lam",bases:=[(.type "object")],mro:=[(r 183),(.type "object")],ns:=182,qualname:="Lam"},slots:= #[none,none,(o (s "Lam" 355)),(o (s "Lam" 363)),(o (.builtin "object.__new__")),(o (b true))]},
{cls:=(.type "getset_descriptor"),data:= .fields #[s "__dict__" 402,r 183,.builtin "function.__dict__",.builtin "function.__dict__#set"]},
{cls:=(.type "getset_descriptor"),data:= .fields #[s "__weakref__" 404,r 183,.builtin "ExceptionGroup.__weakref__",.none]},
{cls:=(.type "super"),data:= .fields #[r 183,r 183,r 183]},
{cls:=(.type "builtin_function_or_method"),data:= .fields #[.builtin "object.__init_subclass__",r 183]},
t0,
{cls:=(.type "builtin_function_or_method"),data:= .fields #[.builtin "type.__prepare__",.type "type"]},
dc #[e P "__module__" 416 (s "lazycore.core" 194),e P "__qualname__" 418 (s "Let" 417),e P "__firstlineno__" 420 (n 60 419),e P "__init__" 430 (r 201),e P "groups" 436 (r 206),e P "parts" 442 (r 211),e P "rebuilt" 451 (r 218),e P "__static_attributes__" 455 (r 219)] 8,
t0,
fl [(62,4,200),(67,4,205),(70,4,210),(74,4,217)],
c2 "Let" "Let" 411 60 191 414,
{cls:=(.type "frame"),slots:= #[(o (r 193)),(o (r 3)),(o (r 190)),none,(o (s "lazycore.core" 194)),none,(o (r 0))]},
t0,
f0,
tn ["self","binds","body","is_rec"] 424,
t0,
g0 (M 6 0) "Let.__init__",
c1 "__init__" "Let.__init__" 421 62 4 195 428,
g1 (M 6 0) "Let.__init__" "lazycore.core" 194 200 .none,
t0,
f0,
g0 (M 6 1) "Let.groups",
cx "groups" "Let.groups" 431 67 1 3 202 true .none .none .none (r 204) 434,
g1 (M 6 1) "Let.groups" "lazycore.core" 194 205 .none,
t0,
f0,
g0 (M 6 2) "Let.parts",
cx "parts" "Let.parts" 437 70 1 3 207 true .none .none .none (r 209) 440,
g1 (M 6 2) "Let.parts" "lazycore.core" 194 210 .none,
t0,
f0,
tn ["self","groups","parts"] 446,
t0,
g0 (M 6 3) "Let.rebuilt",
c1 "rebuilt" "Let.rebuilt" 443 74 3 212 449,
g1 (M 6 3) "Let.rebuilt" "lazycore.core" 194 217 .none,
tn ["binds","body","is_rec"] 452,
dc #[e P "__module__" 416 (s "lazycore.core" 194),e P "__firstlineno__" 420 (n 60 419),e P "__init__" 430 (r 201),e P "groups" 436 (r 206),e P "parts" 442 (r 211),e P "rebuilt" 451 (r 218),e P "__static_attributes__" 455 (r 219),e P "__dict__" 457 (r 222),e P "__weakref__" 459 (r 223),e P "__doc__" 460 .none] 4,
{cls:=(.type "type"),data:= .cls {name:="Let",bases:=[(.type "object")],mro:=[(r 221),(.type "object")],ns:=220,qualname:="Let"},slots:= #[none,none,(o (s "Let" 409)),(o (s "Let" 417)),(o (.builtin "object.__new__")),(o (b true))]},
{cls:=(.type "getset_descriptor"),data:= .fields #[s "__dict__" 456,r 221,.builtin "function.__dict__",.builtin "function.__dict__#set"]},
{cls:=(.type "getset_descriptor"),data:= .fields #[s "__weakref__" 458,r 221,.builtin "ExceptionGroup.__weakref__",.none]},
{cls:=(.type "super"),data:= .fields #[r 221,r 221,r 221]},
{cls:=(.type "builtin_function_or_method"),data:= .fields #[.builtin "object.__init_subclass__",r 221]},
t0,
{cls:=(.type "builtin_function_or_method"),data:= .fields #[.builtin "type.__prepare__",.type "type"]},
dc #[e P "__module__" 470 (s "lazycore.core" 194),e P "__qualname__" 472 (s "Alt" 471),e P "__firstlineno__" 474 (n 76 473),e P "__init__" 484 (r 239),e P "__static_attributes__" 488 (r 240)] 5,
t0,
fl [(78,4,238)],
c2 "Alt" "Alt" 465 76 229 468,
{cls:=(.type "frame"),slots:= #[(o (r 231)),(o (r 3)),(o (r 228)),none,(o (s "lazycore.core" 194)),none,(o (r 0))]},
t0,
f0,
tn ["self","key","names","body"] 478,
t0,
g0 (M 7 0) "Alt.__init__",
c1 "__init__" "Alt.__init__" 475 78 4 233 482,
g1 (M 7 0) "Alt.__init__" "lazycore.core" 194 238 .none]
noncomputable def yd(P:Params):List Obj:=[tn ["body","key","names"] 485,
dc #[e P "__module__" 470 (s "lazycore.core" 194),e P "__firstlineno__" 474 (n 76 473),e P "__init__" 484 (r 239),e P "__static_attributes__" 488 (r 240),e P "__dict__" 490 (r 243),e P "__weakref__" 492 (r 244),e P "__doc__" 493 .none] 4,
{cls:=(.type "type"),data:= .cls {name:="Alt",bases:=[(.type "object")],mro:=[(r 242),(.type "object")],ns:=241,qualname:="Alt"},slots:= #[none,none,(o (s "Alt" 463)),(o (s "Alt" 471)),(o (.builtin "object.__new__")),(o (b true))]},
{cls:=(.type "getset_descriptor"),data:= .fields #[s "__dict__" 489,r 242,.builtin "function.__dict__",.builtin "function.__dict__#set"]},
{cls:=(.type "getset_descriptor"),data:= .fields #[s "__weakref__" 491,r 242,.builtin "ExceptionGroup.__weakref__",.none]},
{cls:=(.type "super"),data:= .fields #[r 242,r 242,r 242]},
{cls:=(.type "builtin_function_or_method"),data:= .fields #[.builtin "object.__init_subclass__",r 242]},
t0,
{cls:=(.type "builtin_function_or_method"),data:= .fields #[.builtin "type.__prepare__",.type "type"]},
dc #[e P "__module__" 503 (s "lazycore.core" 194),e P "__qualname__" 505 (s "Case" 504),e P "__firstlineno__" 507 (n 82 506),e P "__init__" 518 (r 260),e P "groups" 524 (r 265),e P "parts" 533 (r 272),e P "rebuilt" 542 (r 279),e P "__static_attributes__" 547 (r 280)] 8,
t0,
fl [(84,4,259),(90,4,264),(93,4,271),(99,4,278)],
c2 "Case" "Case" 498 82 250 501,
{cls:=(.type "frame"),slots:= #[(o (r 252)),(o (r 3)),(o (r 249)),none,(o (s "lazycore.core" 194)),none,(o (r 0))]},
t0,
f0,
tn ["self","value","name","alts","other"] 511,
t0,
g0 (M 8 0) "Case.__init__",
c1 "__init__" "Case.__init__" 508 84 5 254 516,
g1 (M 8 0) "Case.__init__" "lazycore.core" 194 259 .none,
t0,
f0,
g0 (M 8 1) "Case.groups",
cx "groups" "Case.groups" 519 90 1 3 261 true .none .none .none (r 263) 522,
g1 (M 8 1) "Case.groups" "lazycore.core" 194 264 .none,
t0,
f0,
tn ["self","found","at"] 528,
t0,
g0 (M 8 2) "Case.parts",
c1 "parts" "Case.parts" 525 93 1 266 531,
g1 (M 8 2) "Case.parts" "lazycore.core" 194 271 .none,
t0,
f0,
tn ["self","groups","parts"] 537,
t0,
g0 (M 8 3) "Case.rebuilt",
c1 "rebuilt" "Case.rebuilt" 534 99 3 273 540,
g1 (M 8 3) "Case.rebuilt" "lazycore.core" 194 278 .none,
tn ["alts","name","other","value"] 543,
dc #[e P "__module__" 503 (s "lazycore.core" 194),e P "__firstlineno__" 507 (n 82 506),e P "__init__" 518 (r 260),e P "groups" 524 (r 265),e P "parts" 533 (r 272),e P "rebuilt" 542 (r 279),e P "__static_attributes__" 547 (r 280),e P "__dict__" 549 (r 283),e P "__weakref__" 551 (r 284),e P "__doc__" 552 .none] 4,
{cls:=(.type "type"),data:= .cls {name:="Case",bases:=[(.type "object")],mro:=[(r 282),(.type "object")],ns:=281,qualname:="Case"},slots:= #[none,none,(o (s "Case" 496)),(o (s "Case" 504)),(o (.builtin "object.__new__")),(o (b true))]},
{cls:=(.type "getset_descriptor"),data:= .fields #[s "__dict__" 548,r 282,.builtin "function.__dict__",.builtin "function.__dict__#set"]},
{cls:=(.type "getset_descriptor"),data:= .fields #[s "__weakref__" 550,r 282,.builtin "ExceptionGroup.__weakref__",.none]},
{cls:=(.type "super"),data:= .fields #[r 282,r 282,r 282]},
{cls:=(.type "builtin_function_or_method"),data:= .fields #[.builtin "object.__init_subclass__",r 282]},
t0,
{cls:=(.type "builtin_function_or_method"),data:= .fields #[.builtin "type.__prepare__",.type "type"]},
dc #[e P "__module__" 562 (s "lazycore.core" 194),e P "__qualname__" 564 (s "Con" 563),e P "__firstlineno__" 566 (n 101 565),e P "__init__" 575 (r 300),e P "groups" 582 (r 307),e P "parts" 588 (r 312),e P "rebuilt" 597 (r 319),e P "__static_attributes__" 600 (r 320)] 8,
t0,
fl [(103,4,299),(107,4,306),(110,4,311),(113,4,318)],
c2 "Con" "Con" 557 101 290 560,
{cls:=(.type "frame"),slots:= #[(o (r 292)),(o (r 3)),(o (r 289)),none,(o (s "lazycore.core" 194)),none,(o (r 0))]},
t0,
f0,
tn ["self","name","args"] 570,
t0,
g0 (M 9 0) "Con.__init__",
c1 "__init__" "Con.__init__" 567 103 3 294 573]
noncomputable def Df(P:Params):List Obj:=[g1 (M 9 0) "Con.__init__" "lazycore.core" 194 299 .none,
t0,
f0,
tn ["self"] 579,
t0,
g0 (M 9 1) "Con.groups",
c1 "groups" "Con.groups" 576 107 1 301 580,
g1 (M 9 1) "Con.groups" "lazycore.core" 194 306 .none,
t0,
f0,
g0 (M 9 2) "Con.parts",
cx "parts" "Con.parts" 583 110 1 3 308 true .none .none .none (r 310) 586,
g1 (M 9 2) "Con.parts" "lazycore.core" 194 311 .none,
t0,
f0,
tn ["self","groups","parts"] 592,
t0,
g0 (M 9 3) "Con.rebuilt",
c1 "rebuilt" "Con.rebuilt" 589 113 3 313 595,
g1 (M 9 3) "Con.rebuilt" "lazycore.core" 194 318 .none,
tn ["args","name"] 598,
dc #[e P "__module__" 562 (s "lazycore.core" 194),e P "__firstlineno__" 566 (n 101 565),e P "__init__" 575 (r 300),e P "groups" 582 (r 307),e P "parts" 588 (r 312),e P "rebuilt" 597 (r 319),e P "__static_attributes__" 600 (r 320),e P "__dict__" 602 (r 323),e P "__weakref__" 604 (r 324),e P "__doc__" 605 .none] 4,
{cls:=(.type "type"),data:= .cls {name:="Con",bases:=[(.type "object")],mro:=[(r 322),(.type "object")],ns:=321,qualname:="Con"},slots:= #[none,none,(o (s "Con" 555)),(o (s "Con" 563)),(o (.builtin "object.__new__")),(o (b true))]},
{cls:=(.type "getset_descriptor"),data:= .fields #[s "__dict__" 601,r 322,.builtin "function.__dict__",.builtin "function.__dict__#set"]},
{cls:=(.type "getset_descriptor"),data:= .fields #[s "__weakref__" 603,r 322,.builtin "ExceptionGroup.__weakref__",.none]},
{cls:=(.type "super"),data:= .fields #[r 322,r 322,r 322]},
{cls:=(.type "builtin_function_or_method"),data:= .fields #[.builtin "object.__init_subclass__",r 322]},
t0,
{cls:=(.type "builtin_function_or_method"),data:= .fields #[.builtin "type.__prepare__",.type "type"]},
dc #[e P "__module__" 615 (s "lazycore.core" 194),e P "__qualname__" 617 (s "Prim" 616),e P "__firstlineno__" 619 (n 115 618),e P "__init__" 628 (r 340),e P "groups" 635 (r 347),e P "parts" 641 (r 352),e P "rebuilt" 650 (r 359),e P "__static_attributes__" 653 (r 360)] 8,
t0,
fl [(117,4,339),(121,4,346),(124,4,351),(127,4,358)],
c2 "Prim" "Prim" 610 115 330 613,
{cls:=(.type "frame"),slots:= #[(o (r 332)),(o (r 3)),(o (r 329)),none,(o (s "lazycore.core" 194)),none,(o (r 0))]},
t0,
f0,
tn ["self","op","args"] 623,
t0,
g0 (M 10 0) "Prim.__init__",
c1 "__init__" "Prim.__init__" 620 117 3 334 626,
g1 (M 10 0) "Prim.__init__" "lazycore.core" 194 339 .none,
t0,
f0,
tn ["self"] 632,
t0,
g0 (M 10 1) "Prim.groups",
c1 "groups" "Prim.groups" 629 121 1 341 633,
g1 (M 10 1) "Prim.groups" "lazycore.core" 194 346 .none,
t0,
f0,
g0 (M 10 2) "Prim.parts",
cx "parts" "Prim.parts" 636 124 1 3 348 true .none .none .none (r 350) 639,
g1 (M 10 2) "Prim.parts" "lazycore.core" 194 351 .none,
t0,
f0,
tn ["self","groups","parts"] 645,
t0,
g0 (M 10 3) "Prim.rebuilt",
c1 "rebuilt" "Prim.rebuilt" 642 127 3 353 648,
g1 (M 10 3) "Prim.rebuilt" "lazycore.core" 194 358 .none]
noncomputable def Dg(P:Params):List Obj:=[tn ["args","op"] 651,
dc #[e P "__module__" 615 (s "lazycore.core" 194),e P "__firstlineno__" 619 (n 115 618),e P "__init__" 628 (r 340),e P "groups" 635 (r 347),e P "parts" 641 (r 352),e P "rebuilt" 650 (r 359),e P "__static_attributes__" 653 (r 360),e P "__dict__" 655 (r 363),e P "__weakref__" 657 (r 364),e P "__doc__" 658 .none] 4,
{cls:=(.type "type"),data:= .cls {name:="Prim",bases:=[(.type "object")],mro:=[(r 362),(.type "object")],ns:=361,qualname:="Prim"},slots:= #[none,none,(o (s "Prim" 608)),(o (s "Prim" 616)),(o (.builtin "object.__new__")),(o (b true))]},
{cls:=(.type "getset_descriptor"),data:= .fields #[s "__dict__" 654,r 362,.builtin "function.__dict__",.builtin "function.__dict__#set"]},
{cls:=(.type "getset_descriptor"),data:= .fields #[s "__weakref__" 656,r 362,.builtin "ExceptionGroup.__weakref__",.none]},
{cls:=(.type "super"),data:= .fields #[r 362,r 362,r 362]},
{cls:=(.type "builtin_function_or_method"),data:= .fields #[.builtin "object.__init_subclass__",r 362]},
t0,
{cls:=(.type "builtin_function_or_method"),data:= .fields #[.builtin "type.__prepare__",.type "type"]},
dc #[e P "__module__" 668 (s "lazycore.core" 194),e P "__qualname__" 670 (s "CoreProgram" 669),e P "__firstlineno__" 672 (n 129 671),e P "__init__" 682 (r 380),e P "__static_attributes__" 686 (r 381)] 5,
t0,
fl [(131,4,379)],
c2 "CoreProgram" "CoreProgram" 663 129 370 666,
{cls:=(.type "frame"),slots:= #[(o (r 372)),(o (r 3)),(o (r 369)),none,(o (s "lazycore.core" 194)),none,(o (r 0))]},
t0,
f0,
tn ["self","binds","cons","main"] 676,
t0,
g0 (M 11 0) "CoreProgram.__init__",
c1 "__init__" "CoreProgram.__init__" 673 131 4 374 680,
g1 (M 11 0) "CoreProgram.__init__" "lazycore.core" 194 379 .none,
tn ["binds","cons","main"] 683,
dc #[e P "__module__" 668 (s "lazycore.core" 194),e P "__firstlineno__" 672 (n 129 671),e P "__init__" 682 (r 380),e P "__static_attributes__" 686 (r 381),e P "__dict__" 688 (r 384),e P "__weakref__" 690 (r 385),e P "__doc__" 691 .none] 4,
{cls:=(.type "type"),data:= .cls {name:="CoreProgram",bases:=[(.type "object")],mro:=[(r 383),(.type "object")],ns:=382,qualname:="CoreProgram"},slots:= #[none,none,(o (s "CoreProgram" 661)),(o (s "CoreProgram" 669)),(o (.builtin "object.__new__")),(o (b true))]},
{cls:=(.type "getset_descriptor"),data:= .fields #[s "__dict__" 687,r 383,.builtin "function.__dict__",.builtin "function.__dict__#set"]},
{cls:=(.type "getset_descriptor"),data:= .fields #[s "__weakref__" 689,r 383,.builtin "ExceptionGroup.__weakref__",.none]},
{cls:=(.type "super"),data:= .fields #[r 383,r 383,r 383]},
{cls:=(.type "builtin_function_or_method"),data:= .fields #[.builtin "object.__init_subclass__",r 383]},
t0,
{cls:=(.type "builtin_function_or_method"),data:= .fields #[.builtin "type.__prepare__",.type "type"]},
dc #[e P "__module__" 703 (s "lazycore.demand" 694),e P "__qualname__" 705 (s "Signature" 704),e P "__firstlineno__" 707 (n 136 706),e P "__init__" 717 (r 401),e P "row" 724 (r 408),e P "__static_attributes__" 728 (r 409)] 6,
t0,
fl [(138,4,400),(143,4,407)],
c2 "Signature" "Signature" 698 136 391 701,
{cls:=(.type "frame"),slots:= #[(o (r 393)),(o (r 3)),(o (r 390)),none,(o (s "lazycore.demand" 694)),none,(o (r 0))]},
t0,
f0,
tn ["self","flags","free","diverges"] 711,
t0,
g0 (M 13 0) "Signature.__init__",
c1 "__init__" "Signature.__init__" 708 138 4 395 715,
g1 (M 13 0) "Signature.__init__" "lazycore.demand" 694 400 .none,
t0,
f0,
tn ["self"] 721,
t0,
g0 (M 13 1) "Signature.row",
c1 "row" "Signature.row" 718 143 1 402 722,
g1 (M 13 1) "Signature.row" "lazycore.demand" 694 407 .none,
tn ["diverges","flags","free"] 725,
dc #[e P "__module__" 703 (s "lazycore.demand" 694),e P "__firstlineno__" 707 (n 136 706),e P "__init__" 717 (r 401),e P "row" 724 (r 408),e P "__static_attributes__" 728 (r 409),e P "__dict__" 730 (r 412),e P "__weakref__" 732 (r 413),e P "__doc__" 733 .none] 4,
{cls:=(.type "type"),data:= .cls {name:="Signature",bases:=[(.type "object")],mro:=[(r 411),(.type "object")],ns:=410,qualname:="Signature"},slots:= #[none,none,(o (s "Signature" 696)),(o (s "Signature" 704)),(o (.builtin "object.__new__")),(o (b true))]},
{cls:=(.type "getset_descriptor"),data:= .fields #[s "__dict__" 729,r 411,.builtin "function.__dict__",.builtin "function.__dict__#set"]},
{cls:=(.type "getset_descriptor"),data:= .fields #[s "__weakref__" 731,r 411,.builtin "ExceptionGroup.__weakref__",.none]},
{cls:=(.type "super"),data:= .fields #[r 411,r 411,r 411]},
{cls:=(.type "builtin_function_or_method"),data:= .fields #[.builtin "object.__init_subclass__",r 411]},
t0,
f0,
tn ["many"] 739,
t0]
noncomputable def Dh(P:Params):List Obj:=[g0 (S 14) "hopeful",
c1 "hopeful" "hopeful" 736 145 1 416 740,
g1 (S 14) "hopeful" "lazycore.demand" 694 421 .none,
t0,
f0,
tn ["one","other","found"] 746,
t0,
g0 (S 15) "both",
c1 "both" "both" 743 147 2 423 749,
g1 (S 15) "both" "lazycore.demand" 694 428 .none,
t0,
f0,
g0 (S 16) "either",
cx "either" "either" 752 153 1 3 430 true .none .none .none (r 432) 755,
g1 (S 16) "either" "lazycore.demand" 694 433 .none,
t0,
f0,
g0 (S 17) "without",
cx "without" "without" 758 159 2 3 435 true .none .none .none (r 437) 761,
g1 (S 17) "without" "lazycore.demand" 694 438 .none,
t0,
f0,
tn ["env","more","found"] 767,
t0,
g0 (S 18) "extended",
c1 "extended" "extended" 764 163 2 440 770,
g1 (S 18) "extended" "lazycore.demand" 694 445 .none,
t0,
f0,
tn ["expr","env"] 776,
t0,
g0 (S 19) "needed",
c1 "needed" "needed" 773 167 2 447 778,
g1 (S 19) "needed" "lazycore.demand" 694 452 .none,
t0,
f0,
tn ["expr","env","found","arg"] 784,
t0,
g0 (S 20) "prim_needs",
c1 "prim_needs" "prim_needs" 781 179 2 454 788,
g1 (S 20) "prim_needs" "lazycore.demand" 694 459 .none,
t0,
f0,
tn ["expr","env","found","known","flag","arg"] 794,
t0,
g0 (S 21) "call_needs",
c1 "call_needs" "call_needs" 791 186 2 461 800,
g1 (S 21) "call_needs" "lazycore.demand" 694 466 .none,
t0,
f0,
tn ["expr","env","lots","alt"] 806,
t0,
g0 (S 22) "case_needs",
c1 "case_needs" "case_needs" 803 202 2 468 810,
g1 (S 22) "case_needs" "lazycore.demand" 694 473 .none,
t0,
f0,
g0 (S 23) "signature_of",
cx "signature_of" "signature_of" 813 209 2 3 475 true .none .none .none (r 477) 816,
g1 (S 23) "signature_of" "lazycore.demand" 694 478 .none]
noncomputable def Di(P:Params):List Obj:=[t0,
f0,
g0 (S 24) "functions_in",
cx "functions_in" "functions_in" 819 215 1 3 480 true .none .none .none (r 482) 822,
g1 (S 24) "functions_in" "lazycore.demand" 694 483 .none,
t0,
f0,
g0 (S 25) "settled",
cx "settled" "settled" 825 217 2 3 485 true .none .none .none (r 487) 828,
g1 (S 25) "settled" "lazycore.demand" 694 488 .none,
t0,
f0,
g0 (S 26) "bound_env",
cx "bound_env" "bound_env" 831 228 2 3 490 true .none .none .none (r 492) 834,
g1 (S 26) "bound_env" "lazycore.demand" 694 493 .none,
t0,
f0,
g0 (S 27) "with_binds",
cx "with_binds" "with_binds" 837 233 4 3 495 true .none .none .none (r 497) 840,
g1 (S 27) "with_binds" "lazycore.demand" 694 498 .none,
t0,
f0,
tn ["expr","env","inner"] 846,
t0,
g0 (S 28) "let_needs",
c1 "let_needs" "let_needs" 843 244 2 500 849,
g1 (S 28) "let_needs" "lazycore.demand" 694 505 .none,
t0,
f0,
tn ["program"] 857,
t0,
g0 (S 30) "signatures",
c1 "signatures" "signatures" 854 248 1 507 858,
g1 (S 30) "signatures" "lazycore.strictness" 852 512 .none,
t0,
f0,
tn ["expr"] 864,
t0,
g0 (S 31) "is_done",
c1 "is_done" "is_done" 861 250 1 514 865,
g1 (S 31) "is_done" "lazycore.strictness" 852 519 .none,
t0,
{cls:=(.type "builtin_function_or_method"),data:= .fields #[.builtin "type.__prepare__",.type "type"]},
dc #[e P "__module__" 875 (s "lazycore.strictness" 852),e P "__qualname__" 877 (s "Forcer" 876),e P "__firstlineno__" 879 (n 252 878),e P "__init__" 887 (r 534),e P "expr" 893 (r 539),e P "case" 899 (r 544),e P "let" 905 (r 549),e P "call" 911 (r 554),e P "__static_attributes__" 913 (r 555)] 9,
t0,
fl [(254,4,533),(257,4,538),(272,4,543),(277,4,548),(287,4,553)],
c2 "Forcer" "Forcer" 870 252 524 873,
{cls:=(.type "frame"),slots:= #[(o (r 526)),(o (r 3)),(o (r 523)),none,(o (s "lazycore.strictness" 852)),none,(o (r 0))]},
t0,
f0,
tn ["self","fresh"] 883,
t0,
g0 (M 32 0) "Forcer.__init__",
c1 "__init__" "Forcer.__init__" 880 254 2 528 885,
g1 (M 32 0) "Forcer.__init__" "lazycore.strictness" 852 533 .none,
t0,
f0,
g0 (M 32 1) "Forcer.expr",
cx "expr" "Forcer.expr" 888 257 3 3 535 true .none .none .none (r 537) 891,
g1 (M 32 1) "Forcer.expr" "lazycore.strictness" 852 538 .none]
noncomputable def Dj(P:Params):List Obj:=[t0,
f0,
g0 (M 32 2) "Forcer.case",
cx "case" "Forcer.case" 894 272 3 3 540 true .none .none .none (r 542) 897,
g1 (M 32 2) "Forcer.case" "lazycore.strictness" 852 543 .none,
t0,
f0,
g0 (M 32 3) "Forcer.let",
cx "let" "Forcer.let" 900 277 3 3 545 true .none .none .none (r 547) 903,
g1 (M 32 3) "Forcer.let" "lazycore.strictness" 852 548 .none,
t0,
f0,
g0 (M 32 4) "Forcer.call",
cx "call" "Forcer.call" 906 287 3 3 550 true .none .none .none (r 552) 909,
g1 (M 32 4) "Forcer.call" "lazycore.strictness" 852 553 .none,
tn ["fresh"] 912,
dc #[e P "__module__" 875 (s "lazycore.strictness" 852),e P "__firstlineno__" 879 (n 252 878),e P "__init__" 887 (r 534),e P "expr" 893 (r 539),e P "case" 899 (r 544),e P "let" 905 (r 549),e P "call" 911 (r 554),e P "__static_attributes__" 913 (r 555),e P "__dict__" 915 (r 558),e P "__weakref__" 917 (r 559),e P "__doc__" 918 .none] 4,
{cls:=(.type "type"),data:= .cls {name:="Forcer",bases:=[(.type "object")],mro:=[(r 557),(.type "object")],ns:=556,qualname:="Forcer"},slots:= #[none,none,(o (s "Forcer" 868)),(o (s "Forcer" 876)),(o (.builtin "object.__new__")),(o (b true))]},
{cls:=(.type "getset_descriptor"),data:= .fields #[s "__dict__" 914,r 557,.builtin "function.__dict__",.builtin "function.__dict__#set"]},
{cls:=(.type "getset_descriptor"),data:= .fields #[s "__weakref__" 916,r 557,.builtin "ExceptionGroup.__weakref__",.none]},
{cls:=(.type "super"),data:= .fields #[r 557,r 557,r 557]},
{cls:=(.type "builtin_function_or_method"),data:= .fields #[.builtin "object.__init_subclass__",r 557]},
t0,
f0,
g0 (S 33) "forced",
cx "forced" "forced" 921 300 2 3 562 true .none .none .none (r 564) 924,
g1 (S 33) "forced" "lazycore.strictness" 852 565 .none,
t0,
f0,
g0 (S 35) "same_head",
cx "same_head" "same_head" 929 305 2 3 567 true .none .none .none (r 569) 932,
g1 (S 35) "same_head" "lazycore.core_names" 927 570 .none,
t0,
f0,
tn ["names","scope","groups","found","number","at"] 938,
t0,
g0 (S 36) "paired",
c1 "paired" "paired" 935 322 3 572 944,
g1 (S 36) "paired" "lazycore.core_names" 927 577 .none,
t0,
{cls:=(.type "builtin_function_or_method"),data:= .fields #[.builtin "type.__prepare__",.type "type"]},
dc #[e P "__module__" 954 (s "lazycore.core_names" 927),e P "__qualname__" 956 (s "Alike" 955),e P "__firstlineno__" 958 (n 328 957),e P "__init__" 965 (r 592),e P "numbered" 975 (r 599),e P "of_groups" 981 (r 604),e P "run" 1001 (r 611),e P "__static_attributes__" 1003 (r 612)] 8,
t0,
fl [(330,4,591),(333,4,598),(340,4,603),(346,4,610)],
c2 "Alike" "Alike" 949 328 582 952,
{cls:=(.type "frame"),slots:= #[(o (r 584)),(o (r 3)),(o (r 581)),none,(o (s "lazycore.core_names" 927)),none,(o (r 0))]},
t0,
f0,
tn ["self"] 962,
t0,
g0 (M 37 0) "Alike.__init__",
c1 "__init__" "Alike.__init__" 959 330 1 586 963,
g1 (M 37 0) "Alike.__init__" "lazycore.core_names" 927 591 .none,
t0,
f0,
tn ["self","group","numbers","name"] 969,
t0,
g0 (M 37 1) "Alike.numbered",
c1 "numbered" "Alike.numbered" 966 333 2 593 973,
g1 (M 37 1) "Alike.numbered" "lazycore.core_names" 927 598 .none]
noncomputable def Cs(P:Params):List Obj:=[t0,
f0,
g0 (M 37 2) "Alike.of_groups",
cx "of_groups" "Alike.of_groups" 976 340 3 3 600 true .none .none .none (r 602) 979,
g1 (M 37 2) "Alike.of_groups" "lazycore.core_names" 927 603 .none,
t0,
f0,
tn ["self","one","other","tasks","first","second","here","there","groups","ones","others","at","part","scope"] 985,
t0,
g0 (M 37 3) "Alike.run",
c1 "run" "Alike.run" 982 346 3 605 999,
g1 (M 37 3) "Alike.run" "lazycore.core_names" 927 610 .none,
tn ["many"] 1002,
dc #[e P "__module__" 954 (s "lazycore.core_names" 927),e P "__firstlineno__" 958 (n 328 957),e P "__init__" 965 (r 592),e P "numbered" 975 (r 599),e P "of_groups" 981 (r 604),e P "run" 1001 (r 611),e P "__static_attributes__" 1003 (r 612),e P "__dict__" 1005 (r 615),e P "__weakref__" 1007 (r 616),e P "__doc__" 1008 .none] 4,
{cls:=(.type "type"),data:= .cls {name:="Alike",bases:=[(.type "object")],mro:=[(r 614),(.type "object")],ns:=613,qualname:="Alike"},slots:= #[none,none,(o (s "Alike" 947)),(o (s "Alike" 955)),(o (.builtin "object.__new__")),(o (b true))]},
{cls:=(.type "getset_descriptor"),data:= .fields #[s "__dict__" 1004,r 614,.builtin "function.__dict__",.builtin "function.__dict__#set"]},
{cls:=(.type "getset_descriptor"),data:= .fields #[s "__weakref__" 1006,r 614,.builtin "ExceptionGroup.__weakref__",.none]},
{cls:=(.type "super"),data:= .fields #[r 614,r 614,r 614]},
{cls:=(.type "builtin_function_or_method"),data:= .fields #[.builtin "object.__init_subclass__",r 614]},
t0,
f0,
tn ["one","other"] 1014,
t0,
g0 (S 38) "alike",
c1 "alike" "alike" 1011 362 2 619 1016,
g1 (S 38) "alike" "lazycore.core_names" 927 624 .none,
tv #[.type "Exception"],
{cls:=(.type "builtin_function_or_method"),data:= .fields #[.builtin "type.__prepare__",.type "type"]},
dc #[e P "__module__" 1028 (s "lazycore.errors" 1019),e P "__qualname__" 1030 (s "LazyError" 1029),e P "__firstlineno__" 1032 (n 365 1031),e P "__init__" 1041 (r 640),e P "__static_attributes__" 1044 (r 641)] 5,
t0,
fl [(367,4,639)],
c2 "LazyError" "LazyError" 1023 365 629 1026,
{cls:=(.type "frame"),slots:= #[(o (r 631)),(o (r 3)),(o (r 628)),none,(o (s "lazycore.errors" 1019)),none,(o (r 0))]},
tv #[.none],
t0,
f0,
tn ["self","message","place"] 1036,
t0,
g0 (M 40 0) "LazyError.__init__",
c1 "__init__" "LazyError.__init__" 1033 367 3 634 1039,
g1 (M 40 0) "LazyError.__init__" "lazycore.errors" 1019 639 (r 633),
tn ["message","place"] 1042,
dc #[e P "__module__" 1028 (s "lazycore.errors" 1019),e P "__firstlineno__" 1032 (n 365 1031),e P "__init__" 1041 (r 640),e P "__static_attributes__" 1044 (r 641),e P "__weakref__" 1046 (r 644),e P "__doc__" 1047 .none] 3,
{cls:=(.type "type"),data:= .cls {name:="LazyError",bases:=[(.type "Exception")],mro:=[(r 643),(.type "Exception"),(.type "BaseException"),(.type "object")],ns:=642,qualname:="LazyError",subclasses:=[(r 656)]},slots:= #[(o (r 626)),none,(o (s "LazyError" 1021)),(o (s "LazyError" 1029)),(o (.builtin "Exception.__new__")),(o (b true))]},
{cls:=(.type "getset_descriptor"),data:= .fields #[s "__weakref__" 1045,r 643,.builtin "ExceptionGroup.__weakref__",.none]},
{cls:=(.type "super"),data:= .fields #[r 643,r 643,r 643]},
{cls:=(.type "builtin_function_or_method"),data:= .fields #[.builtin "object.__init_subclass__",r 643]},
tv #[r 643],
{cls:=(.type "builtin_function_or_method"),data:= .fields #[.builtin "type.__prepare__",.type "type"]},
dc #[e P "__module__" 1059 (s "lazycore.errors" 1019),e P "__qualname__" 1061 (s "CoreError" 1060),e P "__firstlineno__" 1063 (n 371 1062),e P "__static_attributes__" 1064 (r 654)] 4,
t0,
f0,
c2 "CoreError" "CoreError" 1054 371 650 1057,
{cls:=(.type "frame"),slots:= #[(o (r 652)),(o (r 3)),(o (r 649)),none,(o (s "lazycore.errors" 1019)),none,(o (r 0))]},
t0,
dc #[e P "__module__" 1059 (s "lazycore.errors" 1019),e P "__firstlineno__" 1063 (n 371 1062),e P "__static_attributes__" 1064 (r 654),e P "__doc__" 1065 .none] 2,
{cls:=(.type "type"),data:= .cls {name:="CoreError",bases:=[(r 643)],mro:=[(r 656),(r 643),(.type "Exception"),(.type "BaseException"),(.type "object")],ns:=655,qualname:="CoreError"},slots:= #[(o (r 647)),none,(o (s "CoreError" 1052)),(o (s "CoreError" 1060)),(o (.builtin "Exception.__new__")),(o (b true))]},
{cls:=(.type "super"),data:= .fields #[r 656,r 656,r 656]},
{cls:=(.type "builtin_function_or_method"),data:= .fields #[.builtin "object.__init_subclass__",r 656]},
tn ["int","char","app","lam","let","letrec","case","of","is","else","con","prim","program"] 1070]
noncomputable def Ct(P:Params):List Obj:=[t0,
f0,
g0 (S 45) "is_number",
cx "is_number" "is_number" 1086 376 1 3 660 true .none .none .none (r 662) 1089,
g1 (S 45) "is_number" "lazycore.core_text" 1068 663 .none,
t0,
f0,
g0 (S 46) "is_bare",
cx "is_bare" "is_bare" 1092 379 1 3 665 true .none .none .none (r 667) 1095,
g1 (S 46) "is_bare" "lazycore.core_text" 1068 668 .none,
t0,
f0,
tn ["name"] 1101,
t0,
g0 (S 47) "name_text",
c1 "name_text" "name_text" 1098 383 1 670 1102,
g1 (S 47) "name_text" "lazycore.core_text" 1068 675 .none,
t0,
f0,
g0 (S 48) "names_text",
cx "names_text" "names_text" 1105 387 1 3 677 true .none .none .none (r 679) 1108,
g1 (S 48) "names_text" "lazycore.core_text" 1068 680 .none,
t0,
f0,
tn ["kind","value"] 1114,
t0,
g0 (S 49) "literal_text",
c1 "literal_text" "literal_text" 1111 389 2 682 1116,
g1 (S 49) "literal_text" "lazycore.core_text" 1068 687 .none,
t0,
f0,
tn ["alt"] 1122,
t0,
g0 (S 50) "key_text",
c1 "key_text" "key_text" 1119 391 1 689 1123,
g1 (S 50) "key_text" "lazycore.core_text" 1068 694 .none,
t0,
f0,
g0 (S 51) "binds_text",
cx "binds_text" "binds_text" 1126 395 1 3 696 true .none .none .none (r 698) 1129,
g1 (S 51) "binds_text" "lazycore.core_text" 1068 699 .none,
t0,
f0,
g0 (S 52) "case_text",
cx "case_text" "case_text" 1132 397 1 3 701 true .none .none .none (r 703) 1135,
g1 (S 52) "case_text" "lazycore.core_text" 1068 704 .none,
t0,
f0,
g0 (S 53) "row_text",
cx "row_text" "row_text" 1138 401 2 3 706 true .none .none .none (r 708) 1141,
g1 (S 53) "row_text" "lazycore.core_text" 1068 709 .none,
t0,
f0,
tn ["expr","word"] 1147,
t0,
g0 (S 54) "inner_text",
c1 "inner_text" "inner_text" 1144 403 1 711 1149,
g1 (S 54) "inner_text" "lazycore.core_text" 1068 716 .none,
t0,
f0]
noncomputable def Cu(P:Params):List Obj:=[tn ["expr"] 1155,
t0,
g0 (S 55) "core_text",
c1 "core_text" "core_text" 1152 420 1 718 1156,
g1 (S 55) "core_text" "lazycore.core_text" 1068 723 .none,
t0,
f0,
tn ["name","at"] 1164,
t0,
g0 (S 57) "base_of",
c1 "base_of" "base_of" 1161 423 1 725 1166,
g1 (S 57) "base_of" "lazycore.fresh" 1159 730 .none,
t0,
{cls:=(.type "builtin_function_or_method"),data:= .fields #[.builtin "type.__prepare__",.type "type"]},
dc #[e P "__module__" 1176 (s "lazycore.fresh" 1159),e P "__qualname__" 1178 (s "Fresh" 1177),e P "__firstlineno__" 1180 (n 426 1179),e P "__init__" 1188 (r 747),e P "avoid" 1197 (r 754),e P "next" 1207 (r 761),e P "__static_attributes__" 1210 (r 762)] 7,
t0,
fl [(428,4,746),(433,4,753),(437,4,760)],
c2 "Fresh" "Fresh" 1171 426 735 1174,
{cls:=(.type "frame"),slots:= #[(o (r 737)),(o (r 3)),(o (r 734)),none,(o (s "lazycore.fresh" 1159)),none,(o (r 0))]},
t0,
tv #[r 739],
t0,
f0,
tn ["self","avoided"] 1184,
t0,
g0 (M 58 0) "Fresh.__init__",
c1 "__init__" "Fresh.__init__" 1181 428 2 741 1186,
g1 (M 58 0) "Fresh.__init__" "lazycore.fresh" 1159 746 (r 740),
t0,
f0,
tn ["self","names","name"] 1192,
t0,
g0 (M 58 1) "Fresh.avoid",
c1 "avoid" "Fresh.avoid" 1189 433 2 748 1195,
g1 (M 58 1) "Fresh.avoid" "lazycore.fresh" 1159 753 .none,
t0,
f0,
tn ["self","base","told","number"] 1201,
t0,
g0 (M 58 2) "Fresh.next",
c1 "next" "Fresh.next" 1198 437 2 755 1205,
g1 (M 58 2) "Fresh.next" "lazycore.fresh" 1159 760 .none,
tn ["avoided","numbers"] 1208,
dc #[e P "__module__" 1176 (s "lazycore.fresh" 1159),e P "__firstlineno__" 1180 (n 426 1179),e P "__init__" 1188 (r 747),e P "avoid" 1197 (r 754),e P "next" 1207 (r 761),e P "__static_attributes__" 1210 (r 762),e P "__dict__" 1212 (r 765),e P "__weakref__" 1214 (r 766),e P "__doc__" 1215 .none] 4,
{cls:=(.type "type"),data:= .cls {name:="Fresh",bases:=[(.type "object")],mro:=[(r 764),(.type "object")],ns:=763,qualname:="Fresh"},slots:= #[none,none,(o (s "Fresh" 1169)),(o (s "Fresh" 1177)),(o (.builtin "object.__new__")),(o (b true))]},
{cls:=(.type "getset_descriptor"),data:= .fields #[s "__dict__" 1211,r 764,.builtin "function.__dict__",.builtin "function.__dict__#set"]},
{cls:=(.type "getset_descriptor"),data:= .fields #[s "__weakref__" 1213,r 764,.builtin "ExceptionGroup.__weakref__",.none]},
{cls:=(.type "super"),data:= .fields #[r 764,r 764,r 764]},
{cls:=(.type "builtin_function_or_method"),data:= .fields #[.builtin "object.__init_subclass__",r 764]},
t0,
f0,
tn ["script","k","cell","big","mixed"] 1223,
t0,
g0 (S 60) "_law_pool",
c1 "_law_pool" "_law_pool" 1220 445 2 769 1228,
g1 (S 60) "_law_pool" "law_og0029_01" 1218 774 .none,
t0,
f0,
tn ["source","top","got"] 1234,
t0]
noncomputable def Cv(P:Params):List Obj:=[g0 (S 61) "_law_take",
c1 "_law_take" "_law_take" 1231 452 2 776 1237,
g1 (S 61) "_law_take" "law_og0029_01" 1218 781 .none,
t0,
f0,
tn ["source","things"] 1243,
t0,
g0 (S 62) "_law_one",
c1 "_law_one" "_law_one" 1240 459 2 783 1245,
g1 (S 62) "_law_one" "law_og0029_01" 1218 788 .none,
t0,
f0,
tn ["box","base"] 1251,
t0,
g0 (S 63) "_law_new",
c1 "_law_new" "_law_new" 1248 461 2 790 1253,
g1 (S 63) "_law_new" "law_og0029_01" 1218 795 .none,
t0,
f0,
tn ["look","binds"] 1259,
t0,
g0 (S 64) "_law_tops",
c1 "_law_tops" "_law_tops" 1256 464 0 797 1261,
g1 (S 64) "_law_tops" "law_og0029_01" 1218 802 .none,
dc #[e P "add" 1264 (r 805),e P "look" 1265 (r 806),e P "stop" 1266 .none,e P "cell" 1267 (r 807)] 4,
{cls:=(.type "list"),data:= .seq #[b true,b true]},
{cls:=(.type "list"),data:= .seq #[b true,b false]},
{cls:=(.type "list"),data:= .seq #[b false]},
t0,
f0,
g0 (S 66) "_law_expr",
cx "_law_expr" "_law_expr" 1273 471 4 3 808 true .none .none .none (r 810) 1276,
g1 (S 66) "_law_expr" "law_og0029_01" 1218 811 .none,
t0,
f0,
g0 (S 67) "_law_strict",
cx "_law_strict" "_law_strict" 1279 498 1 3 813 true .none .none .none (r 815) 1282,
g1 (S 67) "_law_strict" "law_og0029_01" 1218 816 .none,
t0,
f0,
g0 (S 68) "_law_ways",
cx "_law_ways" "_law_ways" 1285 509 1 3 818 true .none .none .none (r 820) 1288,
g1 (S 68) "_law_ways" "law_og0029_01" 1218 821 .none,
t0,
f0,
g0 (S 69) "_law_reached",
cx "_law_reached" "_law_reached" 1291 512 1 3 823 true .none .none .none (r 825) 1294,
g1 (S 69) "_law_reached" "law_og0029_01" 1218 826 .none,
t0,
f0,
g0 (S 70) "_law_dead",
cx "_law_dead" "_law_dead" 1297 517 1 3 828 true .none .none .none (r 830) 1300,
g1 (S 70) "_law_dead" "law_og0029_01" 1218 831 .none,
t0,
f0,
g0 (S 71) "_law_sure",
cx "_law_sure" "_law_sure" 1303 529 2 3 833 true .none .none .none (r 835) 1306,
g1 (S 71) "_law_sure" "law_og0029_01" 1218 836 .none,
t0,
f0]
noncomputable def Cw(P:Params):List Obj:=[tn ["expr"] 1312,
t0,
g0 (S 72) "_law_is_done",
c1 "_law_is_done" "_law_is_done" 1309 545 1 838 1313,
g1 (S 72) "_law_is_done" "law_og0029_01" 1218 843 .none,
t0,
f0,
g0 (S 73) "_law_forced",
cx "_law_forced" "_law_forced" 1316 547 2 3 845 true .none .none .none (r 847) 1319,
g1 (S 73) "_law_forced" "law_og0029_01" 1218 848 .none,
t0,
f0,
g0 (S 74) "_law_call",
cx "_law_call" "_law_call" 1322 566 2 3 850 true .none .none .none (r 852) 1325,
g1 (S 74) "_law_call" "law_og0029_01" 1218 853 .none,
t0,
f0,
g0 (S 75) "law",
cx "law" "law" 1328 580 1 3 855 true .none .none .none (r 857) 1331,
g1 (S 75) "law" "law_og0029_01" 1218 858 .none]
noncomputable def hl(P:Params):List Obj:=(De P++(eK P++(fZ P++(qH P++(yd P++(Df P++(Dg P++(Dh P++(Di P++(Dj P++(Cs P++(Ct P++(Cu P++(Cv P++Cw P))))))))))))))
noncomputable def Ka:List Addr:=[2,3,15,17,18,20,21,29,31,32,34,35,36,38,39,41,42,43,45,46,48,49,50,52,53,55,56,57,58,59,60,61,71,73,74,76,77,78,80,81,83,84,85,87,88,90,91,92,94,95,97,98,99,100,101,102,103,113,115,116,118,119,120,122,123,125,126,127,130,131,132,134,135,137,138,139,140,141,142,143,153,155,156,158,159,160,162,163,165,166,167,169,170,172,173,174,176,177,179,180,181,182,183,184,185,195,197,198,200,201,202,205,206,207,210,211,212,214,215,217,218,219,220,221,222,223,233,235,236,238,239,240,241,242,243,244,254,256,257,259,260,261,264,265,266,268,269,271,272,273,275,276,278,279,280,281,282,283,284,294,296,297,299,300,301,303,304,306,307,308,311,312,313,315,316,318,319,320,321,322,323,324,334,336,337,339,340,341,343,344,346,347,348,351,352,353,355,356,358,359,360,361,362,363,364,374,376,377,379,380,381,382,383,384,385,395,397,398,400,401,402,404,405,407,408,409,410,411,412,413,416,418,419,421,422,423,425,426,428,429,430,433,434,435,438,439,440,442,443,445,446,447,449,450,452,453,454,456,457,459,460,461,463,464,466,467,468,470,471,473,474,475,478,479,480,483,484,485,488,489,490,493,494,495,498,499,500,502,503,505,506,507,509,510,512,513,514,516,517,519,520,528,530,531,533,534,535,538,539,540,543,544,545,548,549,550,553,554,555,556,557,558,559,562,565,566,567,570,571,572,574,575,577,578,586,588,589,591,592,593,595,596,598,599,600,603,604,605,607,608,610,611,612,613,614,615,616,619,621,622,624,625,626,633,634,636,637,639,640,641,642,643,644,647,654,655,656,659,660,663,664,665,668,669,670,672,673,675,676,677,680,681,682,684,685,687,688,689,691,692,694,695,696,699,700,701,704,705,706,709,710,711,713,714,716,717,718,720,721,723,724,725,727,728,730,731,739,740,741,743,744,746,747,748,750,751,753,754,755,757,758,760,761,762,763,764,765,766,769,771,772,774,775,776,778,779,781,782,783,785,786,788,789,790,792,793,795,796,797,799,800,802,803,804,805,806,807,808,811,812,813,816,817,818,821,822,823,826,827,828,831,832,833,836,837,838,840,841,843,844,845,848,849,850,853,854,855,858,859]
noncomputable def Cy:List Obj->Nat->List Addr->Frag
 |x::r,i,a::l=>bif Nat.beq a i then(a,x)::Cy r (i+1) l else Cy r (i+1) (a::l)
 |_,_,_=>[]
noncomputable def Hp(P:Params):Frag:=Cy (hl P) 0 Ka
noncomputable def mkT:Nat->List Obj->BT->BT
 |_,[],t=>t
 |i,x::l,t=>mkT (i+1) l (t.ins i x)
noncomputable def ha(P:Params):List Obj:=[boot_o_0 P,boot_o_1 P,boot_o_2 P,boot_o_3 P,boot_o_4 P,boot_o_5 P,boot_o_6 P,boot_o_7 P,boot_o_8 P,boot_o_9 P,boot_o_10 P,t0,f0,C1,C3]
noncomputable def Ta(P:Params):BT:=mkT 0 (ha P) .nil
noncomputable def Tz(P:Params):BT:=mkT 0 (hl P) .nil
noncomputable def Hz(P:Params):Heap:=⟨⟨hl P⟩,{}⟩
noncomputable def env:Env:={scope:=pr.main.scope,locals:=mainNs,globals:=mainNs,cells:=[],code:= .ref 13,frame:=some 14}
noncomputable abbrev bd:List Stmt:=behindTheImports pr
noncomputable abbrev cE:Code:= .body bd env
noncomputable def p0:Pos:=⟨0,0,0,0⟩
noncomputable def pz:Pos:=⟨580,0,591,83⟩
noncomputable abbrev an:Option Value:=some (.ref 6)
theorem Dk(w:World):(fun os=>topGo treeTable pr w 11 an 12 ⟨boot_heap w.params,#[],boot_drawn,boot_toks,os⟩ (topStub pr))=
  fun os=>some (⟨⟨⟨ha w.params⟩,{}⟩,#[],{},187,os⟩,⟨denote treeTable cE,cE,p0,[topFrame p0]⟩):=by kernel_rfl
theorem Dl(w:World):(fun os=>segRun treeTable pr w 11 an 1 1 ⟨⟨⟨ha w.params⟩,{}⟩,#[],{},187,os⟩ (blockOf bd env cE p0 [topFrame p0]))=
  fun os=>some (.next,SharedT.abs ⟨Ta w.params,15,{},#[],{},187,os⟩,cE,p0):=by kernel_rfl
noncomputable def hm(P:Params)(m j q:Nat)(v:Value)(z:Obj):List Obj:=boot_o_0 P::boot_o_1 P::z::dc ⟨e P "__name__" 165 v::(e3 P).take (j -1)⟩ j::((hl P).drop 4).take 8++fl (C4.take q)::((hl P).drop 13).take (m -13)
noncomputable abbrev St(w:World)(os:OsState)(m j q t:Nat)(v:Value)(z:Obj):SharedT:=⟨mkT 0 (hm w.params m j q v z) .nil,m,{},#[],{},t,os⟩
noncomputable abbrev s0(w:World)(os:OsState):SharedT:=⟨Ta w.params,15,{},#[],{},187,os⟩
noncomputable abbrev s1(w:World)(os:OsState):SharedT:=St w os 188 14 5 409 (s "lazycore.core" 194) (boot_o_2 w.params)
noncomputable abbrev s2(w:World)(os:OsState):SharedT:=St w os 327 18 9 608 (s "lazycore.core" 194) (boot_o_2 w.params)
noncomputable abbrev s3(w:World)(os:OsState):SharedT:=St w os 500 35 26 843 (s "lazycore.demand" 694) (boot_o_2 w.params)
noncomputable abbrev s4(w:World)(os:OsState):SharedT:=St w os 665 49 38 1092 (s "lazycore.core_text" 1068) (o2 w.params)
noncomputable abbrev s5(w:World)(os:OsState):SharedT:=St w os 769 61 50 1220 (s "law_og0029_01" 1218) (o2 w.params)
noncomputable abbrev s6(w:World)(os:OsState):SharedT:=⟨Tz w.params,860,{},#[],{},1334,os⟩
noncomputable def p1:Pos:=⟨46,0,59,16⟩
noncomputable def p2:Pos:=⟨101,0,114,16⟩
noncomputable def p3:Pos:=⟨233,0,243,32⟩
noncomputable def p4:Pos:=⟨376,0,378,80⟩
noncomputable def p5:Pos:=⟨444,0,444,8⟩
noncomputable abbrev b0:List Stmt:=bd
noncomputable abbrev b1:List Stmt:=b0.drop 6
noncomputable abbrev b2:List Stmt:=b1.drop 4
noncomputable abbrev b3:List Stmt:=b2.drop 18
noncomputable abbrev b4:List Stmt:=b3.drop 18
noncomputable abbrev b5:List Stmt:=b4.drop 14
abbrev Rn(w:World)(x y:World->OsState->SharedT)(l:List Stmt)(p p':Pos):Prop:=(fun os=>PySem.W.Fast.tw10110043849684766642 PySem.W.Fast.tw14364793385576792824 pr w 11 an 1 2000 (x w os) (piecesOf l env cE p [topFrame p0]))=
  fun os=>some (.next,y w os,cE,p')
theorem r1(w:World):Rn w s0 s1 (b0.take 6) p0 p1:=by kernel_rfl
theorem r2(w:World):Rn w s1 s2 (b1.take 4) p1 p2:=by kernel_rfl
theorem r3(w:World):Rn w s2 s3 (b2.take 18) p2 p3:=by kernel_rfl
theorem r4(w:World):Rn w s3 s4 (b3.take 18) p3 p4:=by kernel_rfl
theorem r5(w:World):Rn w s4 s5 (b4.take 14) p4 p5:=by kernel_rfl
theorem Dm(w:World):Rn (w.withFollow "special-get-raises" false) s5 s6 b5 p5 pz:=by kernel_rfl
theorem Dn(w:World):Rn (w.withFollow "special-get-raises" true) s5 s6 b5 p5 pz:=by kernel_rfl
theorem r6(w:World):Rn w s5 s6 b5 p5 pz:=byRow2 "special-get-raises" (P:=fun w=>Rn w s5 s6 b5 p5 pz) Dm Dn w
theorem gV(w:World):(fun os=>topRun treeTable pr w 11 an 2 (SharedT.abs ⟨Tz w.params,860,{},#[],{},1334,os⟩) ⟨doneF .next,cE,pz,[topFrame p0]⟩)=
  fun os=>some ⟨Hz w.params,#[],{},1334,os⟩:=by kernel_rfl
theorem ju{w:World}{x y:World->OsState->SharedT}{l:List Stmt}{p p':Pos}(h:Rn w x y l p p')(os:OsState):segRun treeTable pr w 11 an 1 2000 (x w os).abs (piecesOf l env cE p [topFrame p0])=some (.next,(y w os).abs,cE,p'):=by
 unfold Rn at h
 rw[←PySem.W.Fast.te10110043849684766642,←PySem.W.Fast.te14364793385576792824]at h
 exact segRun_of (congrFun h os)
theorem gk{w:World}{n N k:Nat}{s s' r:Shared}{l:List Stmt}{pos p':Pos}(h:segRun treeTable pr w 11 an 1 n s (piecesOf (l.take k) env cE pos [topFrame p0])=some (.next,s',cE,p'))(g:topRun treeTable pr w 11 an N s' (restOf (l.drop k) env cE p' [topFrame p0])=some r):topRun treeTable pr w 11 an (n+N) s (restOf l env cE pos [topFrame p0])=some r:=by
 have:=piece_app h g
 rwa [List.take_append_drop]at this
theorem sH{w:World}{n N:Nat}{s s' r:Shared}{l:List Stmt}{pos p':Pos}(h:segRun treeTable pr w 11 an 1 n s (piecesOf l env cE pos [topFrame p0])=some (.next,s',cE,p'))(g:topRun treeTable pr w 11 an N s' ⟨doneF .next,cE,p',[topFrame p0]⟩=some r):topRun treeTable pr w 11 an (n+N) s (restOf l env cE pos [topFrame p0])=some r:=by
 have:=piece_app (rest:=[]) h (piece_nil g)
 rwa [List.append_nil]at this
theorem Bf(w:World)(os:OsState):topRun treeTable pr w 11 an (12+(1+(2000+(2000+(2000+(2000+(2000+(2000+2)))))))) ⟨boot_heap w.params,#[],boot_drawn,boot_toks,os⟩ (topStub pr)=some ⟨Hz w.params,#[],{},1334,os⟩:=
 go_top (congrFun (Dk w) os) (piece_block (congrFun (Dl w) os) (gk (l:=b0) (ju (r1 w) os) (gk (l:=b1) (ju (r2 w) os) (gk (l:=b2) (ju (r3 w) os) (gk (l:=b3) (ju (r4 w) os) (gk (l:=b4) (ju (r5 w) os) (sH (ju (r6 w) os) (congrFun (gV w) os))))))))
noncomputable def keep:List Nat:=(List.range 76).filter fun i=> !([1,12,29,34,39,42,56,59]:List Nat).contains i
noncomputable def q:Program:=view pw keep
noncomputable abbrev loose:List Str:=["LazyError","Fresh","_law_flags"]
noncomputable abbrev Xt:Shared->Bool:=fun x=>xlAt q [] x&&recOk (RowW.records rl.row.toRowW) x
theorem Bi(P:Params):Ka=(Hp P).map (·.1):=by kernel_rfl
noncomputable abbrev Hk:Hook:=kHook Hp Ka Bi
noncomputable abbrev sz(w:World)(os:OsState):Shared:=⟨Hz w.params,#[],{},1334,os⟩
noncomputable abbrev ms:=importedModules pr.main.body
theorem l0(w:World)(os:OsState):(staticsOk ms (boot_heap w.params) (Hz w.params)&&namesBound pr (Hz w.params)&&gensDone (sz w os)&&laidKept (boot_heap w.params) (Hz w.params))=true:=by kernel_rfl
theorem l1(w:World)(os:OsState):seen ((recsOf q).map (·.name)) (ownsOf q) [] {sz w os with gens:= #[]}=expectedOf q:=by kernel_rfl
theorem l2(w:World)(os:OsState):(sz w os).heap.bltView=bltViewBooted:=by kernel_rfl
theorem l3(w:World)(os:OsState):((sz w os).heap.keysOk (looseW q loose) ((recsOf q).map (·.name)) ((litsOf q).map (·.1)) ((clssOf q (looseW q loose)).map (·.name))&&(sz w os).heap.accountedOkI ms&&(sz w os).heap.isNs mainGlobals&&(sz w os).heap.isNs builtinsNs&&tablesOk q (sz w os).heap&&Xt (sz w os)&&(if true then(sz w os).gens.size==0 else !leftWithCleanup (sz w os).gens))=true:=by kernel_rfl
theorem l4(w:World)(os:OsState):tabsOk q (sz w os)=true:=by kernel_rfl
theorem l5(w:World)(os:OsState):pinSeenD q (drecsOf q) (sz w os)=pinGoodD (drecsOf q):=by kernel_rfl
theorem l6(w:World)(os:OsState):plainSeenE q (looseW q loose) (sz w os)=plainGoodE q (looseW q loose):=by kernel_rfl
theorem l7(w:World)(os:OsState):plainSeenD q loose (sz w os)=plainGoodD q loose:=by kernel_rfl
theorem l8(w:World)(os:OsState):wideSeen q (sz w os)=wideGood q:=by kernel_rfl
theorem l9(w:World)(os:OsState):clsSeenW q loose (sz w os)=clsGoodW q loose:=by kernel_rfl
theorem ly(w:World)(os:OsState):Hk.obs (sz w os)=Hk.val w:=by kernel_rfl
theorem Bj(w:World):((boot_heap w.params).isNs mainGlobals&&(#[]:Array GenState).size==0,(boot_heap w.params).objs.size,(boot_heap w.params).nsMap mainGlobals "__annotations__")=(true,11,an):=by kernel_rfl
theorem lo(w:World)(os:OsState):openSeen q loose ms Xt true (sz w os)=openGood q loose:=by
 unfold openSeen openGood
 exact looks_pair (l1 w os) (looks_pair (l2 w os) (looks_pair (l3 w os) (looks_pair (l4 w os) (looks_pair (l5 w os) (looks_pair (l6 w os) (looks_pair (l7 w os) (looks_pair (l8 w os) (l9 w os))))))))
theorem lp(w:World)(os:OsState):((staticsOk ms (boot_heap w.params) (Hz w.params)&&namesBound pr (Hz w.params)&&gensDone (sz w os)&&laidKept (boot_heap w.params) (Hz w.params)),openSeen q loose ms Xt true (sz w os),Hk.obs (sz w os))=(true,openGood q loose,Hk.val w):=looks_pair (l0 w os) (looks_pair (lo w os) (ly w os))
theorem op:opening pr=plainProg pr.main.scope.names:=by rfl
theorem left:LeftO pr q loose Xt Hk.obs Hk.val 12542:=
 LeftO.of_pieces (H₀:=boot_heap) (H₁:=Hz) (M:=12+(1+(2000+(2000+(2000+(2000+(2000+(2000+2)))))))) (boot_open op (by decide) (fun _=>rfl)) Bj Bf (by decide) fun w=>funext fun os=>lp w os
theorem Cz:OpenLaw.wellSaid rl=true:=by
 unfold OpenLaw.wellSaid OpenRow.wellSaid OpenRow.partSaid looksOpen
 repeat' with_reducible refine look_both ?_ ?_
 all_goals decide+kernel
end Hd
set_option maxHeartbeats 1000000
namespace Mine
theorem yc {a b k : Nat} (h : a ≤ k) : min a b ≤ k := Nat.le_trans (Nat.min_le_left a b) h
theorem jV {a b k : Nat} (h : b ≤ k) : min a b ≤ k := Nat.le_trans (Nat.min_le_right a b) h
theorem fQ {a m k : Nat} (h : a ≤ m) (e : Nat.ble m k = true) : a ≤ k := Nat.le_trans h (Nat.le_of_ble_eq_true e)
theorem vV {a b m k : Nat} (h1 : b ≤ m) (h2 : m ≤ k) : min a b ≤ k := Nat.le_trans (Nat.min_le_right _ _) (Nat.le_trans h1 h2)
theorem vW {a b m k : Nat} (h1 : b = m) (h2 : m ≤ k) : min a b ≤ k := vV (Nat.le_of_eq h1) h2
theorem Ck (a b c : Nat) : a ≤ a + b + c := Nat.le_trans (Nat.le_add_right a b) (Nat.le_add_right _ c)
theorem Bd {a b c d : Nat} (h1 : a < b) (h2 : b ≤ c) (h3 : c ≤ d) : a < d := Nat.lt_of_lt_of_le h1 (Nat.le_trans h2 h3)
theorem mu {a b c : Nat} (h : a = b) (h2 : b ≤ c) : a ≤ c := h ▸ h2
theorem Cl {g n : Nat} (h : g = n) : (g : Int) = OfNat.ofNat n := congrArg Int.ofNat h
theorem Cm {g n : Nat} (h : g < n) : (g : Int) < OfNat.ofNat n := Int.ofNat_lt.mpr h
theorem Cn {g n : Nat} (h : ¬ g = n) : ¬ (g : Int) = OfNat.ofNat n := fun q => h (Int.ofNat.inj q)
theorem Be {g n : Nat} (h : ¬ g < n) : ¬ (g : Int) < OfNat.ofNat n := fun q => h (Int.ofNat_lt.mp q)
theorem bK {a b x y : Nat} (h1 : a ≤ b) (h : x + b ≤ y + a := by walk_at "om") : x ≤ y := Nat.le_of_add_le_add_right (Nat.le_trans h (Nat.add_le_add_left h1 y))
theorem bC {a b c d x y : Nat} (h1 : a ≤ b) (h2 : c ≤ d) (h : x + b + d ≤ y + a + c := by walk_at "om") : x ≤ y := bK h1 (bK h2 h)
theorem gi {a b c d e f x y : Nat} (h1 : a ≤ b) (h2 : c ≤ d) (h3 : e ≤ f) (h : x + b + d + f ≤ y + a + c + e := by walk_at "om") : x ≤ y := bK h1 (bC h2 h3 h)
theorem kI {a b c d e f g i x y : Nat} (h1 : a ≤ b) (h2 : c ≤ d) (h3 : e ≤ f) (h4 : g ≤ i) (h : x + b + d + f + i ≤ y + a + c + e + g := by walk_at "om") : x ≤ y := bK h1 (gi h2 h3 h4 h)
theorem Bh {C : Prop} (h : 1 ≤ 0) : C := nomatch h
def wTab : List String := ("om~b,A,*Nat.add_le_add_left b_,Nat.le_add_right __,Ck ___,Nat.le_trans Aq,Nat.lt_of_lt_of_le Aq,Nat.lt_of_le_of_lt Ab,Bd AAb,vV Aq,vW Ab,Nat.le_of_succ_le A,Nat.le_of_eq A,mu Aq,Nat.le_of_lt A,Cl A,Cm A,Cn A,Be A,*Nat.le_add_right __,o~mlk~r,a,*uO ___,*dD km,*Am km~meT~oX h,me~meF~oX h,xn h,uV akkikkh,qe akih,me~meU~rX h,me~meA~x7 h,meF~me~?E,?Es,?SS,?T,?S,?qY,?sV,?qc,?ut,?Tr,ZZ~?E~lq akmh,wW aakkgphrr,r9 aakknvhrr,wX aakknvhrr,oR aakkgh,w8 akmhrrr,sb hrrrr,w7 akmh,w6 hr,Bl h,Bm h,yG h,yH h,BW h,zG h,w9 h,zC h,BX h,wY h,uM h,uN h,zB hr,BV h,zA h,BE hi,ui hi,zH h,uB akih,uC akih~?Es~wZ akmh,se akmh,cN h,q8 rh,uv rh~?SS~dm h,zV aakkmakkgrrh,zQ h,yr h,xe hr,zR akhr,uy h~?T~B3 aakkmakkgrrh,zD h,zE h,yL h,BY h,yh h,zF hr,qd hr~?S~zO h,B0 h,xd hr,uD akkikkh,uE akkikkh,uA akhr,zP hrrr,zx aakhirrr,zy aakhirr,zS hi,uF akh,S_augKK akkmh~?qY~zL h,uw h,jG h~?sV~zI h,zJ h,zM h~?qc~kTand_t h,xb h,xc h~?ut~kTor_t h,zK h,ux h~?Tr~fg h~ZZ~lr h,lt h,bu eh,bz fh,zN h,BZ h,uo akh,ol akh,uT h,uU h,An h,Ao h,B7 h,B8 h,Ap h,Ar h,sW h,uG h,uP ah,uQ h,sY ah,rg ah,kTurn_ret h,kR4_use ah,B6 h,CT h,sX.use ah,Ak.use ah,xk.use ah,kTurn_nx h~=a~(p.assumption 'assumption )~=A~(p.withReducible 'with_reducible (p.assumption 'assumption ) )~=k~(tacticKernel_rfl 'kernel_rfl )~=r~(p.tacticRfl 'rfl )~=i~(s (null (p.intros 'intros (null ) ) '; (p.tacticRfl 'rfl ) ) )~=g~(s (null (p.simp 'simp (p.optConfig (null ) ) (null ) (null 'only ) (null '[ (null (p.simpLemma (null ) (null ) #Dr ) ', (p.simpLemma (null ) (null ) #Dt ) ', (p.simpLemma (null ) (null ) #Du ) ) '] ) (null ) ) '; (p.tacticTry_ 'try (S (s (null (p.tacticRfl 'rfl ) ) ) ) ) ) )~=v~(s (null (p.simp 'simp (p.optConfig (null ) ) (null ) (null 'only ) (null '[ (null (p.simpLemma (null ) (null ) #C5 ) ) '] ) (null ) ) '; (p.tacticTry_ 'try (S (s (null (p.tacticRfl 'rfl ) ) ) ) ) ) )~=p~(s (null (p.refine 'refine (t.app #kp (null (t.hole '_ ) (t.hole '_ ) (t.syntheticHole '? '_ ) ) ) ) '; (tacticKernel_rfl 'kernel_rfl ) ) )~=n~(s (null (p.refine 'refine (t.app #bt (null (t.hole '_ ) (t.hole '_ ) (t.syntheticHole '? '_ ) ) ) ) '; (tacticKernel_rfl 'kernel_rfl ) ) )~=e~(p.exact 'exact #rfl )~=b~(p.exact 'exact (t.app #Nat.le_of_ble_eq_true (null #rfl ) ) )~=f~(p.exact 'exact #Bool.false_ne_true )~=q~(p.first 'first (null (group '| (p.withReducible 'with_reducible (p.assumption 'assumption ) ) ) (group '| (p.exact 'exact (t.app #Nat.le_of_ble_eq_true (null #rfl ) ) ) ) ) )~=o~(p.first 'first (null (group '| (s (null (p.simp 'simp (p.optConfig (null (p.configItem (p.posConfigItem '+ #arith ) ) ) ) (null ) (null ) (null ) (null ) ) '; (p.done 'done ) ) ) ) (group '| (p.lia 'lia (p.optConfig (null (p.configItem (p.negConfigItem '- #verbose ) ) ) ) ) ) (group '| (p.omega 'omega (p.optConfig (null ) ) ) ) ) )~=m~(w 'walk_at \"mlk )~=d~(p.dsimp 'dsimp (p.optConfig (null ) ) (null ) (null 'only ) (null ) (null ) )".splitOn "~")
def wTb (s : String) : List String → String
  | a :: b :: r => if a == s then b else wTb s r
  | _ => ""
def wNd (k : String) (a : List Lean.Syntax) : Lean.Syntax := .node .none (if k.startsWith "p." then `Lean.Parser.Tactic ++ (k.drop 2).toName else if k.startsWith "t." then `Lean.Parser.Term ++ (k.drop 2).toName else if k == "w" then `PyProof.Rows.tacticWalk_at_ else if k == "S" then `Lean.Parser.Tactic.tacticSeq else if k == "s" then `Lean.Parser.Tactic.tacticSeq1Indented else k.toName) a.reverse.toArray
def wB (n : Lean.Name) : List String → List (String × List Lean.Syntax) → Lean.Syntax
  | t :: r, (k, a) :: s =>
    if t == ")" then match s with
      | (k2, b) :: s2 => wB n r ((k2, wNd k a :: b) :: s2)
      | _ => .missing
    else
      let x := (t.drop 1).toString
      if t.startsWith "(" then wB n r ((x, []) :: (k, a) :: s)
      else wB n r ((k, (if t.startsWith "'" then Lean.mkAtom x else if t.startsWith "#" then Lean.mkIdent x.toName else if t.startsWith "?" then Lean.mkIdent (if x == "h" then n else n.appendAfter x) else Lean.Syntax.mkStrLit x) :: a) :: s)
  | _, (_, a :: _) :: _ => a
  | _, _ => .missing
def wAs : List Char → Nat → String × String
  | [], _ => ("", "")
  | c :: r, i =>
    let (a, b) := wAs r (i + 1)
    let j := "?" ++ toString i
    let h := fun x => "(t.syntheticHole '? " ++ x ++ " ) " ++ a
    if c == '_' then ("(t.hole '_ ) " ++ a, b) else if c == 'h' then (h "?h", b)
    else (h j, "'; (p.case 'case (null (p.caseArg (Lean.binderIdent " ++ j ++ " ) (null ) ) ) '=> (S (s (null " ++ wTb (String.ofList ['=', c]) wTab ++ " ) ) ) ) " ++ b)
def wRow (p : String) : String :=
  match p.splitOn " " with
  | [n, l] =>
    let (a, b) := wAs l.toList 0
    let f := fun (n : String) => "(p.refine' 'refine' (t.app #" ++ n ++ " (null " ++ a ++ ") ) )"
    let f := if n.startsWith "*" then f (n.drop 1).toString else "(p.withReducible 'with_reducible " ++ f n ++ " )"
    if b == "" then f else "(s (null " ++ f ++ " " ++ b ++ ") )"
  | _ => if p.startsWith "?" then "(s (null (p.withReducible 'with_reducible (p.refine' 'refine' (t.typeAscription (t.hygienicLParen '( (hygieneInfo #[anonymous] ) ) (t.syntheticHole '? '_ ) ': (null (t.app #Mine." ++ (p.drop 1).toString ++ " (null (t.ellipsis '.. ) ) ) ) ') ) ) ) '; (w 'walk_at \"" ++ p ++ " ) ) )"
    else if p.length == 1 then wTb ("=" ++ p) wTab else "(w 'walk_at \"" ++ p ++ " )"
local macro_rules | `(tactic| walk_at $w:str) => do
  let s := w.getString
  let k ← Lean.Macro.addMacroScope `kk
  let go := s.startsWith "go"
  let x := if go then "me" ++ (s.drop 2).toString ++ ",d" else wTb s wTab
  if x == "" then Lean.Macro.throwUnsupported
  let f := "(p.first 'first (null " ++ " ".intercalate ((x.splitOn ",").map fun p => "(group '| " ++ wRow p ++ " )") ++ " ) )"
  return wB k ((if go then "(p.first 'first (null (group '| (s (null " ++ f ++ " '; (w 'walk_at \"" ++ s ++ " ) ) ) ) (group '| (p.skip 'skip ) ) ) )" else f).splitOn " " |>.filter (· != "")) [("", [])]
local macro_rules |`(tactic|lia)=>`(tactic|walk_at "om")
local macro_rules |`(tactic|rfl')=>`(tactic|walk_at "mlk")
local macro_rules |`(tactic|nofun)=>`(tactic|walk_at "go")
local macro_rules |`(tactic|ac_rfl)=>`(tactic|walk_at "goF")
theorem bD{α:Type}{P:List α->Prop}(l:List α)(nil:P [])(cons:∀a l,P (a::l)):P l:=List.casesOn l nil cons
theorem dQ{P:Nat->Prop}(n:Nat)(zero:P 0)(succ:∀n,P (n+1)):P n:=Nat.casesOn n zero succ
theorem ff{P Q:Prop}{G:Prop}(h:P/\Q)(k:P->Q->G):G:=k h.1 h.2
theorem nT{P Q R:Prop}{G:Prop}(h:P/\Q/\R)(k:P->Q->R->G):G:=k h.1 h.2.1 h.2.2
theorem ye{P Q R S:Prop}{G:Prop}(h:P/\Q/\R/\S)(k:P->Q->R->S->G):G:=k h.1 h.2.1 h.2.2.1 h.2.2.2
theorem tL{P Q R S T:Prop}{G:Prop}(h:P/\Q/\R/\S/\T)(k:P->Q->R->S->T->G):G:=k h.1 h.2.1 h.2.2.1 h.2.2.2.1 h.2.2.2.2
theorem dP{α:Type}{P:α->Prop}{G:Prop}(h:∃a,P a)(k:∀a,P a->G):G:=h.elim fun a h=>k a h
theorem be{α:Type}{P Q:α->Prop}{G:Prop}(h:∃a,P a/\Q a)(k:∀a,P a->Q a->G):G:=h.elim fun a h=>k a h.1 h.2
theorem iz{α:Type}{P Q R:α->Prop}{G:Prop}(h:∃a,P a/\Q a/\R a)(k:∀a,P a->Q a->R a->G):G:=h.elim fun a h=>k a h.1 h.2.1 h.2.2
theorem yf{α:Type}{P Q R S:α->Prop}{G:Prop}(h:∃a,P a/\Q a/\R a/\S a)(k:∀a,P a->Q a->R a->S a->G):G:=h.elim fun a h=>k a h.1 h.2.1 h.2.2.1 h.2.2.2
theorem CA{α β:Type}{P:α->β->Prop}{G:Prop}(h:∃a b,P a b)(k:∀a b,P a b->G):G:=h.elim fun a h=>h.elim fun b h=>k a b h
theorem fM{α β:Type}{P Q:α->β->Prop}{G:Prop}(h:∃a b,P a b/\Q a b)(k:∀a b,P a b->Q a b->G):G:=h.elim fun a h=>h.elim fun b h=>k a b h.1 h.2
theorem dl{α β:Type}{P Q R:α->β->Prop}{G:Prop}(h:∃a b,P a b/\Q a b/\R a b)(k:∀a b,P a b->Q a b->R a b->G):G:=h.elim fun a h=>h.elim fun b h=>k a b h.1 h.2.1 h.2.2
theorem sI{α β:Type}{P Q R S:α->β->Prop}{G:Prop}(h:∃a b,P a b/\Q a b/\R a b/\S a b)(k:∀a b,P a b->Q a b->R a b->S a b->G):G:=h.elim fun a h=>h.elim fun b h=>k a b h.1 h.2.1 h.2.2.1 h.2.2.2
theorem Do{α β γ:Type}{P:α->β->γ->Prop}{G:Prop}(h:∃a b c,P a b c)(k:∀a b c,P a b c->G):G:=h.elim fun a h=>h.elim fun b h=>h.elim fun c h=>k a b c h
theorem v7{α β γ:Type}{P Q:α->β->γ->Prop}{G:Prop}(h:∃a b c,P a b c/\Q a b c)(k:∀a b c,P a b c->Q a b c->G):G:=h.elim fun a h=>h.elim fun b h=>h.elim fun c h=>k a b c h.1 h.2
theorem nU{α β γ:Type}{P Q R:α->β->γ->Prop}{G:Prop}(h:∃a b c,P a b c/\Q a b c/\R a b c)(k:∀a b c,P a b c->Q a b c->R a b c->G):G:=h.elim fun a h=>h.elim fun b h=>h.elim fun c h=>k a b c h.1 h.2.1 h.2.2
theorem ku{α β γ:Type}{P Q R S:α->β->γ->Prop}{G:Prop}(h:∃a b c,P a b c/\Q a b c/\R a b c/\S a b c)(k:∀a b c,P a b c->Q a b c->R a b c->S a b c->G):G:=h.elim fun a h=>h.elim fun b h=>h.elim fun c h=>k a b c h.1 h.2.1 h.2.2.1 h.2.2.2
theorem Dp{α β γ δ:Type}{P Q R S:α->β->γ->δ->Prop}{G:Prop}(h:∃a b c d,P a b c d/\Q a b c d/\R a b c d/\S a b c d)(k:∀a b c d,P a b c d->Q a b c d->R a b c d->S a b c d->G):G:=h.elim fun a h=>h.elim fun b h=>h.elim fun c h=>h.elim fun d h=>k a b c d h.1 h.2.1 h.2.2.1 h.2.2.2
theorem rO{α β γ δ:Type}{P Q R S T:α->β->γ->δ->Prop}{G:Prop}(h:∃a b c d,P a b c d/\Q a b c d/\R a b c d/\S a b c d/\T a b c d)(k:∀a b c d,P a b c d->Q a b c d->R a b c d->S a b c d->T a b c d->G):G:=h.elim fun a h=>h.elim fun b h=>h.elim fun c h=>h.elim fun d h=>k a b c d h.1 h.2.1 h.2.2.1 h.2.2.2.1 h.2.2.2.2
noncomputable def er:Value->Value
 | .int i _=> .int i 0
 | .str x _=> .str x 0
 | .float b _=> .float b 0
 | .bytes b _=> .bytes b 0
 | .none=> .none
 | .ellipsis=> .ellipsis
 | .notImplemented=> .notImplemented
 | .bool b=> .bool b
 | .type n=> .type n
 | .builtin i=> .builtin i
 | .ref a=> .ref a
inductive cq where
 |list (vs:List Value)
 |rlist (vs:List Value)
 |tup (vs:List Value)
 |dict (kvs:List (Str×Value)) (ep:Nat)
 |inst (C dx:Addr)
 |attr (fs:List (Str×Value))
 |range (n:Int)
 |ro (o:cq)
noncomputable abbrev St:=Addr->Option cq
noncomputable abbrev au:=List (Str×Value)
noncomputable def St.set(V:St)(a:Addr)(o:cq):St:=fun b=>if b=a then some o else V b
noncomputable def cq.bare:cq->cq
 | .ro o=>o
 | .list vs=> .list vs
 | .rlist vs=> .rlist vs
 | .tup vs=> .tup vs
 | .dict kvs ep=> .dict kvs ep
 | .inst C dx=> .inst C dx
 | .attr fs=> .attr fs
 | .range n=> .range n
noncomputable def rd(V:St)(a:Addr):Option cq:=(V a).map cq.bare
structure Cx where
 prog:Program
 w:World
 base:Heap
 K:Frag
 mg:Str->Option Value
 mb:Str->Option Value
 lim:base.NoLimit
 g:base.Ns mainGlobals mg
 b:base.Ns builtinsNs mb
 bi:∀x:Str,x≠"__name__"->mb x=bootBuiltins x
 kin:K.In base
def eE(e:DictEntry)(p:Str×Value):Prop:=(∃t,e.key= .str p.1 t)/\er e.val=p.2
def nV(c:Cx)(h:Heap)(a:Addr):cq->Prop
 | .list vs=>∃xs:Array Value,h.PlainList a xs/\xs.toList.map er=vs
 | .rlist vs=>∃xs:Array Value,h.IsList a xs/\xs.toList.map er=vs
 | .tup vs=>∃xs:Array Value,IsTup h a xs/\xs.toList.map er=vs
 | .dict kvs ep=>(a==sysModules)=false/\∃l:List (Str×Value),h.DictAt (PySem.strKind c.prog c.w) a l ep/\l.map (fun p=>(p.1,er p.2))=kvs
 | .inst C dx=>h.get? a=some (instObj C dx)
 | .attr fs=>∃es n,h.get? a=some (dictOf es n)/\PySem.Paired eE es fs
 | .range n=>∃t1 t2 t3,IsRange h a 0 n 1 t1 t2 t3
 | .ro _=>False
def tM(c:Cx)(h:Heap)(a:Addr)(o:cq):Prop:=nV c h a o.bare
theorem nV.at{c:Cx}{h h':Heap}{a:Addr}{o:cq}(x:nV c h a o)(e:∀ob,h.get? a=some ob->h'.get? a=some ob):nV c h' a o:=by
 cases o with
 |list vs=>obtain⟨xs,⟨n,ho⟩,q⟩:=x;exact⟨xs,⟨n,e _ ho⟩,q⟩
 |rlist vs=>obtain⟨xs,⟨ob,ho,r⟩,q⟩:=x;exact⟨xs,⟨ob,e _ ho,r⟩,q⟩
 |tup vs=>obtain⟨xs,⟨ob,ho,r⟩,q⟩:=x;exact⟨xs,⟨ob,e _ ho,r⟩,q⟩
 |dict kvs ep=>obtain⟨hs,l,hd,q⟩:=x;exact⟨hs,l,hd.at' e,q⟩
 |inst C dx=>exact e _ x
 |attr fs=>obtain⟨es,n,ho,q⟩:=x;exact⟨es,n,e _ ho,q⟩
 |range n=>obtain⟨t1,t2,t3,r⟩:=x;exact⟨t1,t2,t3,e _ r⟩
 |ro o=>exact x.elim
theorem nV.live{c:Cx}{h:Heap}{a:Addr}{o:cq}(x:nV c h a o):∃ob,h.get? a=some ob:=by
 cases o with
 |list vs=>obtain⟨xs,⟨n,ho⟩,q⟩:=x;exact⟨_,ho⟩
 |rlist vs=>obtain⟨xs,⟨ob,ho,r⟩,q⟩:=x;exact⟨ob,ho⟩
 |tup vs=>obtain⟨xs,⟨ob,ho,r⟩,q⟩:=x;exact⟨ob,ho⟩
 |dict kvs ep=>obtain⟨hs,l,⟨ob,es,ho,r⟩,q⟩:=x;exact⟨ob,ho⟩
 |inst C dx=>exact⟨_,x⟩
 |attr fs=>obtain⟨es,n,ho,q⟩:=x;exact⟨_,ho⟩
 |range n=>obtain⟨t1,t2,t3,r⟩:=x;exact⟨_,r⟩
 |ro o=>exact x.elim
theorem tM.at{c:Cx}{h h':Heap}{a:Addr}{o:cq}(x:tM c h a o)(e:∀ob,h.get? a=some ob->h'.get? a=some ob):tM c h' a o:=nV.at x e
theorem tM.live{c:Cx}{h:Heap}{a:Addr}{o:cq}(x:tM c h a o):∃ob,h.get? a=some ob:=nV.live x
structure bc(c:Cx)(V:St)(h:Heap):Prop where
 sim:∀a o,V a=some o->tM c h a o
 base:∀b o,c.base.get? b=some o->h.get? b=some o
 apart:∀b o,c.base.get? b=some o->V b=none∨∃r,V b=some (.ro r)
theorem bc.rd{c:Cx}{V:St}{h:Heap}(H:bc c V h){a:Addr}{o:cq}(e:Mine.rd V a=some o):nV c h a o:=by
 unfold Mine.rd at e
 induction hq:V a with
 |none=>rw[hq]at e;cases e
 |some q=>rw[hq]at e;cases e;exact H.sim a q hq
theorem bc.fresh{c:Cx}{V:St}{h:Heap}(H:bc c V h){a:Addr}(ha:h.get? a=none):V a=none:=by
 induction hq:V a with
 |none=>rfl
 |some q=>obtain⟨ob,e⟩:=(H.sim a q hq).live;rw[ha]at e;cases e
theorem bc.freshSize{c:Cx}{V:St}{h:Heap}(H:bc c V h):V h.objs.size=none:=by
 refine H.fresh ?_
 induction hq:h.get? h.objs.size with
 |none=>rfl
 |some o=>exact absurd (Heap.lt_size hq) (Nat.lt_irrefl _)
structure bM(X:Addr->Prop)(V:St)(h:Heap)(V':St)(h':Heap):Prop where
 keep:∀b o,h.get? b=some o->(V b=none∨∃r,V b=some (.ro r))->¬X b->h'.get? b=some o
 dom:∀b o,h.get? b=some o->V b=none->V' b=none
 live:∀b o,h.get? b=some o->∃o',h'.get? b=some o'
 ro:∀b r,V b=some (.ro r)->V' b=some (.ro r)
theorem bM.refl(X:Addr->Prop)(V:St)(h:Heap):bM X V h V h:=
 ⟨fun _ _ e _ _=>e,fun _ _ _ e=>e,fun _ o e=>⟨o,e⟩,fun _ _ e=>e⟩
theorem bM.trans{X:Addr->Prop}{V V1 V2:St}{h h1 h2:Heap}(x:bM X V h V1 h1)(y:bM X V1 h1 V2 h2):bM X V h V2 h2 where
 keep b o e q nx:=by
  refine y.keep b o (x.keep b o e q nx) ?_ nx
  rcases q with q| ⟨r,q⟩
  ·exact .inl (x.dom b o e q)
  ·exact .inr ⟨r,x.ro b r q⟩
 dom b o e q:=by
  refine dP (x.live b o e) fun o1 e1=>?_
  exact y.dom b o1 e1 (x.dom b o e q)
 live b o e:=by
  refine dP (x.live b o e) fun o1 e1=>?_
  exact y.live b o1 e1
 ro b r q:=y.ro b r (x.ro b r q)
theorem bM.weaken{X Y:Addr->Prop}{V V':St}{h h':Heap}(x:bM X V h V' h')(hxy:∀b,X b->Y b):bM Y V h V' h':=
 ⟨fun b o e q n=>x.keep b o e q fun y=>n (hxy b y),x.dom,x.live,x.ro⟩
theorem bM.shrink{X Y:Addr->Prop}{V V':St}{h h':Heap}(x:bM X V h V' h')(hxy:∀b o,h.get? b=some o->X b->Y b):bM Y V h V' h':=
 ⟨fun b o e q n=>x.keep b o e q fun y=>n (hxy b o e y),x.dom,x.live,x.ro⟩
theorem bc.step{c:Cx}{X:Addr->Prop}{V V':St}{h h':Heap}(H:bc c V h)(x:bM X V h V' h')(hX:∀b o,c.base.get? b=some o->¬X b)
  (sim:∀a o,V' a=some o->tM c h' a o):bc c V' h' where
 sim:=sim
 base b o e:=x.keep b o (H.base b o e) (H.apart b o e) (hX b o e)
 apart b o e:=by
  rcases H.apart b o e with q| ⟨r,q⟩
  ·exact .inl (x.dom b o (H.base b o e) q)
  ·exact .inr ⟨r,x.ro b r q⟩
def gD(A:Around)(d:Nat):Prop:=A.handled=none/\A.depth+d<recursionLimit/\A.units+8*d<cLine
theorem gD.le{A:Around}{d d':Nat}(r:gD A d)(h:d'<=d):gD A d':=
 ⟨r.1,by have:=r.2.1;exact bC h this,by have:=r.2.2;lia⟩
def jt(c:Cx)(d:Nat){α:Type}(t:Sem α)(V:St)(Q:α->St->Prop):Prop:=
 ∀(A:Around) (s:Shared) (Q':α->Shared->Prop) (E':Value->Shared->Prop),gD A d->bc c V s.heap->
  (∀v h' tk V',bc c V' h'->bM (fun _=>False) V s.heap V' h'->Q v V'->Q' v {s with heap:=h',toks:=tk})->
  wpAny (model c.prog c.w) A t Q' E' s
theorem jt.pure{c:Cx}{d:Nat}{α:Type}{a:α}{V:St}{Q:α->St->Prop}(h:Q a V):jt c d (Pure.pure a) V Q:=
 fun _ s _ _ _ H k=>wpAny_pure (k a s.heap s.toks V H (.refl ..) h)
theorem jt.same{c:Cx}{d:Nat}{α:Type}{t:Sem α}{V:St}{Q:α->St->Prop}
  (h:∀(A:Around) (s:Shared) (Q':α->Shared->Prop) (E':Value->Shared->Prop),gD A d->bc c V s.heap->
   (∀v tk,Q v V->Q' v {s with toks:=tk})->wpAny (model c.prog c.w) A t Q' E' s):jt c d t V Q:=
 fun A s Q' E' R H k=>h A s Q' E' R H fun v tk q=>k v s.heap tk V H (.refl ..) q
theorem bc.alloc{c:Cx}{V:St}{h h':Heap}{a:Addr}{o:cq}(H:bc c V h)(ha:h.get? a=none)(hk:∀b ob,h.get? b=some ob->h'.get? b=some ob)
  (ho:tM c h' a o):bc c (V.set a o) h'/\bM (fun _=>False) V h (V.set a o) h':=by
 have S:bM (fun _=>False) V h (V.set a o) h':=by
  refine⟨fun b ob e _ _=>hk b ob e,fun b ob e q=>?_,fun b ob e=>⟨ob,hk b ob e⟩,fun b r q=>?_⟩
  ·have:b≠a:=by rintro rfl;rw[ha]at e;cases e
   simp[St.set,this,q]
  ·have:b≠a:=by rintro rfl;rw[H.fresh ha]at q;cases q
   simp[St.set,this,q]
 refine⟨H.step S (fun _ _ _ f=>f) fun b ob q=>?_,S⟩
 by_cases hb:b=a
 ·subst hb;simp[St.set]at q;subst q;exact ho
 ·simp[St.set,hb]at q;exact(H.sim b ob q).at fun x e=>hk b x e
theorem bc.update{c:Cx}{V:St}{h h':Heap}{a:Addr}{o o':cq}(H:bc c V h)(ha:V a=some o)(hnr:∀r,o≠ .ro r)(hk:∀b ob,b≠a->h.get? b=some ob->h'.get? b=some ob)
  (ho:tM c h' a o'):bc c (V.set a o') h'/\bM (fun _=>False) V h (V.set a o') h':=by
 have S:bM (fun _=>False) V h (V.set a o') h':=by
  refine⟨fun b ob e q _=>?_,fun b ob e q=>?_,fun b ob e=>?_,fun b r q=>?_⟩
  ·have:b≠a:=by
    rintro rfl
    rcases q with q| ⟨r,q⟩
    ·rw[ha]at q;cases q
    ·rw[ha]at q;cases q;exact hnr r rfl
   exact hk b ob this e
  ·have:b≠a:=by rintro rfl;rw[ha]at q;cases q
   simp[St.set,this,q]
  ·by_cases hb:b=a
   ·subst hb;exact ho.live
   ·exact⟨ob,hk b ob hb e⟩
  ·have:b≠a:=by rintro rfl;rw[ha]at q;cases q;exact hnr r rfl
   simp[St.set,this,q]
 refine⟨H.step S (fun _ _ _ f=>f) fun b ob q=>?_,S⟩
 by_cases hb:b=a
 ·subst hb;simp[St.set]at q;subst q;exact ho
 ·simp[St.set,hb]at q;exact(H.sim b ob q).at fun x e=>hk b x hb e
theorem mV{P:Expr->Prop}(e:Expr)(c0:∀a b c,P (.BoolOp a b c))(c1:∀a b c,P (.NamedExpr a b c))(c2:∀a b c d,P (.BinOp a b c d))(c3:∀a b c,P (.UnaryOp a b c))(c4:∀a b c d,P (.Lambda a b c d))(c5:∀a b c d,P (.IfExp a b c d))(c6:∀a b c,P (.Dict a b c))(c7:∀a b c,P (.Set a b c))(c8:∀a b c d,P (.ListComp a b c d))(c9:∀a b c d,P (.SetComp a b c d))(c10:∀a b c d e,P (.DictComp a b c d e))(c11:∀a b c d,P (.GeneratorExp a b c d))(c12:∀a b,P (.Await a b))(c13:∀a b,P (.Yield a b))(c14:∀a b,P (.YieldFrom a b))(c15:∀a b c d,P (.Compare a b c d))(c16:∀a b c d,P (.Call a b c d))(c17:∀a b c d,P (.FormattedValue a b c d))(c18:∀a b,P (.JoinedStr a b))(c19:∀a b c,P (.Constant a b c))(c20:∀a b c,P (.Attribute a b c))(c21:∀a b c,P (.Subscript a b c))(c22:∀a b,P (.Starred a b))(c23:∀a b,P (.Name a b))(c24:∀a b,P (.List a b))(c25:∀a b c,P (.Tuple a b c))(c26:∀a b c d,P (.Slice a b c d)):P e:=Expr.casesOn (motive_1:=P) e c0 c1 c2 c3 c4 c5 c6 c7 c8 c9 c10 c11 c12 c13 c14 c15 c16 c17 c18 c19 c20 c21 c22 c23 c24 c25 c26
noncomputable def eW:au->Str->Value->au
 | [],x,v=>[(x,v)]
 | (y,u)::r,x,v=>if x==y then(y,v)::r else(y,u)::eW r x v
theorem nW{y x:Str}{u v:Value}{r:au}(h:(x==y)=true):eW ((y,u)::r) x v=(y,v)::r:=if_pos h
theorem qI{y x:Str}{u v:Value}{r:au}(h:¬(x==y)=true):eW ((y,u)::r) x v=(y,u)::eW r x v:=if_neg h
theorem pB{α:Type}{a k:Str}{b:α}{es:List (Str×α)}(h:(a==k)=true):((k,b)::es).lookup a=some b:=by rw[List.lookup_cons,h]
theorem pC{α:Type}{a k:Str}{b:α}{es:List (Str×α)}(h:(a==k)=false):((k,b)::es).lookup a=es.lookup a:=by rw[List.lookup_cons,h]
theorem cM(l:au)(x:Str)(v:Value)(y:Str):(eW l x v).lookup y=if y=x then some v else l.lookup y:=by
 induction l with
 |nil=>
  show([(x,v)]:List (Str×Value)).lookup y=_
  by_cases h:y=x
  ·rw[if_pos h,pB (beq_iff_eq.mpr h)]
  ·rw[if_neg h,pC (beq_eq_false_iff_ne.mpr h)]
 |cons p r ih=>
  obtain⟨z,u⟩:=p
  by_cases hx:(x==z)=true
  ·rw[nW hx]
   have hx':x=z:=eq_of_beq hx
   by_cases h:y=x
   ·rw[if_pos h,pB (beq_iff_eq.mpr (h.trans hx'))]
   ·have e:(y==z)=false:=beq_eq_false_iff_ne.mpr fun q=>h (q.trans hx'.symm)
    rw[if_neg h,pC e,pC e]
  ·rw[qI hx]
   by_cases hy:(y==z)=true
   ·rw[pB hy,pB hy,if_neg fun e:y=x=>hx (beq_iff_eq.mpr (e.symm.trans (eq_of_beq hy)))]
   ·have e:(y==z)=false:=Bool.eq_false_iff.mpr hy
    rw[pC e,pC e,ih]
structure aW(c:Cx)(env:Env)(l:au)(V:St)(h:Heap):Prop where
 kind:env.scope.kind= .function
 glob:env.globals=mainGlobals
 blt:env.builtins=builtinsNs
 ns:∃m,h.Ns env.locals m/\∀x,env.kindOf x=some .local->(m x).map er=l.lookup x
 cell:∀x,(env.kindOf x=some .cell∨env.kindOf x=some .free)->∃a v,env.cells.lookup x=some a/\h.IsCell a v/\v.map er=l.lookup x
 capart:env.cells.Pairwise fun x y=>x.2≠y.2
 outL:V env.locals=none/\c.base.get? env.locals=none
 outC:∀n a,(n,a)∈env.cells->V a=none/\c.base.get? a=none/\a≠env.locals/\∃o,h.get? a=some o
def mv(env:Env)(b:Addr):Prop:=b=env.locals∨∃n,(n,b)∈env.cells
theorem aW.step{c:Cx}{env:Env}{l:au}{X:Addr->Prop}{V V':St}{h h':Heap}(F:aW c env l V h)(S:bM X V h V' h')(hX:∀b,mv env b->¬X b):aW c env l V' h':=by
 refine be F.ns fun m hm hl=>?_
 have hL:∀o,h.get? env.locals=some o->h'.get? env.locals=some o:=fun o e=>S.keep _ o e (.inl F.outL.1) (hX _ (.inl rfl))
 refine⟨F.kind,F.glob,F.blt,⟨m,hm.at' hL,hl⟩,fun x hx=>?_,F.capart,⟨?_,F.outL.2⟩,fun n a hm'=>?_⟩
 ·obtain⟨a,v,e,⟨o,ho,hd⟩,q⟩:=F.cell x hx
  have hmem:=mem_of_lookup e
  exact⟨a,v,e,⟨o,S.keep _ o ho (.inl (F.outC _ _ hmem).1) (hX _ (.inr ⟨_,hmem⟩)),hd⟩,q⟩
 ·refine v7 hm fun o es ep ho r=>?_
  exact S.dom _ o ho F.outL.1
 ·obtain⟨hq,hb,hne,o,ho⟩:=F.outC n a hm'
  exact⟨S.dom a o ho hq,hb,hne,o,S.keep a o ho (.inl hq) (hX _ (.inr ⟨n,hm'⟩))⟩
theorem aW.lookups{c:Cx}{env:Env}{l l':au}{V:St}{h:Heap}(F:aW c env l V h)(e:∀x,l.lookup x=l'.lookup x):aW c env l' V h:=
 ⟨F.kind,F.glob,F.blt,let ⟨m,hm,hl⟩:=F.ns;⟨m,hm,fun x hx=>(hl x hx).trans (e x)⟩,fun x hx=>let ⟨a,v,h1,h2,h3⟩:=F.cell x hx;⟨a,v,h1,h2,h3.trans (e x)⟩,F.capart,F.outL,F.outC⟩
def eX(c:Cx)(d:Nat)(env:Env)(l:au){α:Type}(t:Sem α)(V:St)(Q:α->St->Prop):Prop:=
 ∀(A:Around) (s:Shared) (Q':α->Shared->Prop) (E':Value->Shared->Prop),gD A d->bc c V s.heap->aW c env l V s.heap->
  (∀v h' tk V',bc c V' h'->bM (fun _=>False) V s.heap V' h'->Q v V'->Q' v {s with heap:=h',toks:=tk})->
  wpAny (model c.prog c.w) A t Q' E' s
def dy(c:Cx)(d:Nat)(env:Env)(l:au){α:Type}(t:Sem α)(V:St)(Q:α->au->St->Prop):Prop:=
 ∀(A:Around) (s:Shared) (Q':α->Shared->Prop) (E':Value->Shared->Prop),gD A d->bc c V s.heap->aW c env l V s.heap->
  (∀v h' tk l' V',bc c V' h'->bM (mv env) V s.heap V' h'->aW c env l' V' h'->Q v l' V'->Q' v {s with heap:=h',toks:=tk})->
  wpAny (model c.prog c.w) A t Q' E' s
section
variable{c:Cx}{d:Nat}{env:Env}{l:au}{α β:Type}{V:St}
theorem aW.after{h h':Heap}{V':St}(F:aW c env l V h)(S:bM (fun _=>False) V h V' h'):aW c env l V' h':=F.step S fun _ _ f=>f
theorem jt.toF{t:Sem α}{Q:α->St->Prop}(h:jt c d t V Q):eX c d env l t V Q:=fun A s Q' E' R H F k=>h A s Q' E' R H k
theorem eX.toS{t:Sem α}{Q:α->au->St->Prop}(h:eX c d env l t V fun v V'=>Q v l V'):dy c d env l t V Q:=
 fun A s Q' E' R H F k=>h A s Q' E' R H F fun v h' tk V' H' S q=>k v h' tk l V' H' (S.weaken fun _ f=>f.elim) (F.after S) q
theorem eX.pure{a:α}{Q:α->St->Prop}(h:Q a V):eX c d env l (Pure.pure a) V Q:=(jt.pure h).toF
theorem eX.mono{t:Sem α}{Q Q1:α->St->Prop}(h:eX c d env l t V Q)(hq:∀a V',Q a V'->Q1 a V'):eX c d env l t V Q1:=
 fun A s Q' E' R H F k=>h A s Q' E' R H F fun v h' tk V' H' S q=>k v h' tk V' H' S (hq _ _ q)
theorem dy.pure{a:α}{Q:α->au->St->Prop}(h:Q a l V):dy c d env l (Pure.pure a) V Q:=eX.toS (eX.pure (Q:=fun v V'=>Q v l V') h)
theorem dy.bind{t:Sem α}{f:α->Sem β}{Q:β->au->St->Prop}(h:dy c d env l t V fun a l1 V1=>dy c d env l1 (f a) V1 Q):dy c d env l (t>>= f) V Q:=
 fun A s Q' E' R H F k=>wpAny_bind (h A s _ E' R H F fun a h1 tk1 l1 V1 H1 S1 F1 q=>q A _ Q' E' R H1 F1 fun v h2 tk2 l2 V2 H2 S2 F2 q2=>k v h2 tk2 l2 V2 H2 (S1.trans S2) F2 q2)
theorem dy.mono{t:Sem α}{Q Q1:α->au->St->Prop}(h:dy c d env l t V Q)(hq:∀a l' V',Q a l' V'->Q1 a l' V'):dy c d env l t V Q1:=
 fun A s Q' E' R H F k=>h A s Q' E' R H F fun v h' tk l' V' H' S F' q=>k v h' tk l' V' H' S F' (hq _ _ _ q)
theorem dy.holding{vs:List Value}{t:Sem α}{Q:α->au->St->Prop}(h:dy c d env l t V Q):dy c d env l (PySem.holding vs t) V Q:=
 fun A s Q' E' R H F k=>wpAny_holding (h A s Q' E' R H F k)
theorem tP{x:Str}{v:Value}{Q:Value->St->Prop}(hk:env.kindOf x=some .local∨env.kindOf x=some .cell∨env.kindOf x=some .free)(hv:l.lookup x=some v)
  (h:∀r,er r=v->Q r V) (hn:(x==("__classdict__":Str))=false):eX c d env l (loadName env x) V Q:=fun A s Q' E' R H F k=>by
 rcases hk with hk|hk|hk
 ·refine be F.ns fun m hm hl=>?_
  have:=hl x hk
  rw[hv]at this
  induction hq:m x with
  |none=>rw[hq]at this;cases this
  |some r=>rw[hq]at this;exact wpAny_loadName_local F.kind hk hm hq (k r s.heap s.toks V H (.refl ..) (h r (Option.some.inj this)))
 ·refine dl (F.cell x (.inl hk)) fun a v' e hc q=>?_
  rw[hv]at q
  induction v' with
  |none=>cases q
  |some r=>exact wpAny_loadName_cell F.kind hk e hc (k r s.heap s.toks V H (.refl ..) (h r (Option.some.inj q)))
 ·refine dl (F.cell x (.inr hk)) fun a v' e hc q=>?_
  rw[hv]at q
  induction v' with
  |none=>cases q
  |some r=>exact wpAny_loadName_free F.kind hk e hc (k r s.heap s.toks V H (.refl ..) (h r (Option.some.inj q))) hn
theorem jv{x:Str}{v:Value}{Q:Unit->au->St->Prop}(hk:env.kindOf x=some .local∨env.kindOf x=some .cell)(h:Q () (eW l x (er v)) V):
  dy c d env l (storeName env x v) V Q:=fun A s Q' E' R H F k=>by
 rcases hk with hk|hk
 ·refine be F.ns fun m hm hl=>?_
  refine v7 (id hm) fun oL es ep hoL rL=>?_
  refine wpAny_storeName_local hk hm (fun h' hn' hs'=>?_) (by rw[F.kind];rfl)
  have S:bM (mv env) V s.heap V h':=by
   refine⟨fun b o e _ nx=>hs'.extBut b o (fun q=>nx (.inl q)) e,fun b o e q=>q,fun b o e=>?_,fun b r q=>q⟩
   by_cases hb:b=env.locals
   ·subst hb;obtain⟨o',_,_,q,_⟩:=hn';exact⟨o',q⟩
   ·exact⟨o,hs'.extBut b o hb e⟩
  have sim:∀a o,V a=some o->tM c h' a o:=fun a o q=>(H.sim a o q).at fun ob e=>hs'.extBut a ob (by rintro rfl;rw[F.outL.1]at q;cases q) e
  have H':bc c V h':=⟨sim,fun b o e=>hs'.extBut b o (by rintro rfl;rw[F.outL.2]at e;cases e) (H.base b o e),H.apart⟩
  refine k () h' _ _ V H' S ⟨F.kind,F.glob,F.blt,⟨_,hn',fun y hy=>?_⟩,fun y hy=>?_,F.capart,F.outL,fun n a hm'=>?_⟩ h
  ·rw[cM]
   by_cases e:y=x
   ·simp[e]
   ·simp only[if_neg e];exact hl y hy
  ·refine dl (F.cell y hy) fun a v' e hc q=>?_
   have hne:¬y=x:=by rintro rfl;rw[hk]at hy;rcases hy with hy|hy<;>cases hy
   refine⟨a,v',e,hc.sameBut hs' (F.outC _ _ (mem_of_lookup e)).2.2.1,?_⟩
   rw[cM,if_neg hne];exact q
  ·obtain⟨q1,q2,q3,o,ho⟩:=F.outC n a hm'
   exact⟨q1,q2,q3,o,hs'.extBut a o q3 ho⟩
 ·refine dl (F.cell x (.inl hk)) fun a v' e hc q=>?_
  have hmem:=mem_of_lookup e
  refine wpAny_storeName_cell F.kind hk e hc fun h' hc' hs'=>?_
  obtain⟨q1,q2,q3,oa,hoa⟩:=F.outC _ _ hmem
  have S:bM (mv env) V s.heap V h':=by
   refine⟨fun b o e _ nx=>hs'.extBut b o (fun q=>nx (.inr ⟨x,q▸hmem⟩)) e,fun b o e q=>q,fun b o e=>?_,fun b r q=>q⟩
   by_cases hb:b=a
   ·subst hb;obtain⟨o',q,_⟩:=hc';exact⟨o',q⟩
   ·exact⟨o,hs'.extBut b o hb e⟩
  have H':bc c V h':=⟨fun b o q=>(H.sim b o q).at fun ob e=>hs'.extBut b ob (by rintro rfl;rw[q1]at q;cases q) e,
   fun b o eb=>hs'.extBut b o (by rintro rfl;rw[q2]at eb;cases eb) (H.base b o eb),H.apart⟩
  refine be F.ns fun m hm hl=>?_
  refine k () h' _ _ V H' S ⟨F.kind,F.glob,F.blt,⟨m,hm.sameBut hs' (Ne.symm q3),fun y hy=>?_⟩,fun y hy=>?_,F.capart,F.outL,fun n b hm'=>?_⟩ h
  ·have hne:¬y=x:=by rintro rfl;rw[hk]at hy;cases hy
   rw[cM,if_neg hne];exact hl y hy
  ·by_cases hyx:y=x
   ·subst hyx;exact⟨a,some v,e,hc',by rw[cM,if_pos rfl];rfl⟩
   ·refine dl (F.cell y hy) fun a2 v2 e2 hc2 q2'=>?_
    have hne:a2≠a:=fun q=>hyx (name_of_addr F.capart (mem_of_lookup e2) (q▸hmem))
    exact⟨a2,v2,e2,hc2.sameBut hs' hne,by rw[cM,if_neg hyx];exact q2'⟩
  ·obtain⟨p1,p2,p3,o,ho⟩:=F.outC n b hm'
   refine⟨p1,p2,p3,?_⟩
   by_cases hb:b=a
   ·subst hb;obtain⟨o',q,_⟩:=hc';exact⟨o',q⟩
   ·exact⟨o,hs'.extBut b o hb ho⟩
theorem sJ{x:Str}{v:Value}{Q:Value->St->Prop}(hk:env.kindOf x=some .globalImplicit)(hv:nsIn c.K mainGlobals x=some (some v))(h:Q v V)(pos:Pos)
  (hd:(x==("__debug__":Str))=false):eX c d env l (eval (.Name x pos) env) V Q:=fun A s Q' E' R H F k=>
 Name_function_global F.kind hk (loadGlobal_global (by rw[F.glob];exact c.g.keeps H.base) (mg_of c.kin c.g hv) (k v s.heap s.toks V H (.refl ..) h)) hd
theorem tQ{x:Str}{v:Value}{Q:Value->St->Prop}(hk:env.kindOf x=some .globalImplicit)(hn:nsIn c.K mainGlobals x=some none)(hv:bootBuiltins x=some v)(hne:x≠"__name__")(h:Q v V)(pos:Pos)
  (hd:(x==("__debug__":Str))=false):eX c d env l (eval (.Name x pos) env) V Q:=fun A s Q' E' R H F k=>
 Name_function_global F.kind hk (loadGlobal_builtin (by rw[F.glob];exact c.g.keeps H.base) (mg_none_of c.kin c.g hn) (by rw[F.blt];exact c.b.keeps H.base) ((c.bi x hne).trans hv) (k v s.heap s.toks V H (.refl ..) h)) hd
end
inductive Fl where
 |next
 |ret (v:Value)
 |other
noncomputable def Bk:Flow->Fl
 | .next=> .next
 | .ret v=> .ret (er v)
 | .brk=> .other
 | .cont=> .other
def E(c:Cx)(d:Nat)(env:Env)(l:au)(e:Expr)(V:St)(Q:Value->St->Prop):Prop:=eX c d env l (eval e env) V fun v V'=>Q (er v) V'
def T(c:Cx)(d:Nat)(env:Env)(l:au)(e:Expr)(V:St)(Q:Bool->St->Prop):Prop:=eX c d env l (isTrue e env (eval e env)) V Q
def Es(c:Cx)(d:Nat)(env:Env)(l:au)(pos:Pos)(es:List Expr)(V:St)(Q:List Value->St->Prop):Prop:=
 eX c d env l (spliced (backTo pos (starEach es env))) V fun vs V'=>Q (vs.map er) V'
def S(c:Cx)(d:Nat)(env:Env)(l:au)(st:Stmt)(V:St)(Q:Fl->au->St->Prop):Prop:=dy c d env l (exec st env) V fun f l' V'=>Q (Bk f) l' V'
def SS(c:Cx)(d:Nat)(env:Env)(l:au)(ss:List Stmt)(V:St)(Q:Fl->au->St->Prop):Prop:=dy c d env l (execs ss env) V fun f l' V'=>Q (Bk f) l' V'
def J1(c:Cx)(d:Nat)(f:Value->Sem Value)(x:Value)(V:St)(Q:Value->St->Prop):Prop:=∀v,er v=x->jt c d (f v) V fun r V'=>Q (er r) V'
def J2(c:Cx)(d:Nat)(f:Value->Value->Sem Value)(x y:Value)(V:St)(Q:Value->St->Prop):Prop:=
 ∀v w,er v=x->er w=y->jt c d (f v w) V fun r V'=>Q (er r) V'
def Tr(c:Cx)(d:Nat)(x:Value)(V:St)(Q:Bool->St->Prop):Prop:=∀v,er v=x->jt c d (truthy v) V Q
def Calls(c:Cx)(d:Nat)(f:Value)(vs:List Value)(V:St)(Q:Value->St->Prop):Prop:=
 ∀rvs,rvs.map er=vs->jt c d (PySem.call f rvs) V fun r V'=>Q (er r) V'
section
variable{c:Cx}{d:Nat}{env:Env}{l:au}{V:St}{pos p:Pos}{Q:Value->St->Prop}{QB:Bool->St->Prop}{QF:Fl->au->St->Prop}
theorem E.mono{e:Expr}{Q1:Value->St->Prop}(h:E c d env l e V Q)(hq:∀a V',Q a V'->Q1 a V'):E c d env l e V Q1:=eX.mono h fun a V'=>hq _ V'
theorem T.mono{e:Expr}{Q1:Bool->St->Prop}(h:T c d env l e V QB)(hq:∀a V',QB a V'->Q1 a V'):T c d env l e V Q1:=eX.mono h hq
theorem S.mono{st:Stmt}{Q1:Fl->au->St->Prop}(h:S c d env l st V QF)(hq:∀a l' V',QF a l' V'->Q1 a l' V'):S c d env l st V Q1:=dy.mono h fun a l' V'=>hq _ l' V'
theorem SS.mono{st:List Stmt}{Q1:Fl->au->St->Prop}(h:SS c d env l st V QF)(hq:∀a l' V',QF a l' V'->Q1 a l' V'):SS c d env l st V Q1:=dy.mono h fun a l' V'=>hq _ l' V'
theorem Bl{i:Int}{k:Nat}(h:Q (.int i 0) V):E c d env l (.Constant (.int i) k p) V Q:=
 fun A s Q' E' R H F kk=>wpAny_mkInt (kk _ s.heap _ V H (.refl ..) h)
theorem Bm{x:Str}{k:Nat}(h:Q (.str x 0) V):E c d env l (.Constant (.str x) k p) V Q:=
 fun A s Q' E' R H F kk=>wpAny_mkText (kk _ s.heap _ V H (.refl ..) h)
theorem yG{b:Bool}{k:Nat}(h:Q (.bool b) V):E c d env l (.Constant (.bool b) k p) V Q:=eX.pure (a:=Value.bool b) h
theorem yH{k:Nat}(h:Q .none V):E c d env l (.Constant .none k p) V Q:=eX.pure (a:=Value.none) h
theorem Bn{x:Str}{v:Value}(hk:env.kindOf x=some .local∨env.kindOf x=some .cell∨env.kindOf x=some .free)(hv:l.lookup x=some v)(h:Q v V)
  (hn:(x==("__classdict__":Str))=false) (hd:(x==("__debug__":Str))=false):E c d env l (.Name x p) V Q:=
 fun A s Q' E' R H F k=>wpAny_Name (tP hk hv (Q:=fun r V'=>Q (er r) V') (fun r e=>e▸h) hn A s Q' E' R H F k) hd
theorem yI{x:Str}{v:Value}(hk:env.kindOf x=some .globalImplicit)(hv:nsIn c.K mainGlobals x=some (some v))(h:Q (er v) V)
  (hd:(x==("__debug__":Str))=false):E c d env l (.Name x p) V Q:=sJ hk hv h p hd
theorem Bo{x:Str}{v:Value}(hk:env.kindOf x=some .globalImplicit)(hn:nsIn c.K mainGlobals x=some none)(hv:bootBuiltins x=some v)(hne:x≠"__name__")(h:Q (er v) V)
  (hd:(x==("__debug__":Str))=false):E c d env l (.Name x p) V Q:=tQ hk hn hv hne h p hd
theorem yg{a b:Expr}{op:Operator}(h:E c d env l a V fun x V1=>E c d env l b V1 fun y V2=>J2 c d (binaryOp op) x y V2 Q):E c d env l (.BinOp a op b p) V Q:=
 fun A s Q' E' R H F k=>wpAny_BinOp (h A s _ E' R H F fun v h1 t1 V1 H1 S1 q=>q A _ _ E' R H1 (F.after S1) fun w h2 t2 V2 H2 S2 q2=>
  q2 v w rfl rfl A _ _ E' R H2 fun r h3 t3 V3 H3 S3 q3=>k r h3 t3 V3 H3 (S1.trans (S2.trans S3)) q3)
theorem CB{a:Expr}{op:UnaryOp}(h:E c d env l a V fun x V1=>J1 c d (unaryOp op) x V1 Q):E c d env l (.UnaryOp op a p) V Q:=
 fun A s Q' E' R H F k=>UnaryOp_ (h A s _ E' R H F fun v h1 t1 V1 H1 S1 q=>q v rfl A _ _ E' R H1 fun r h3 t3 V3 H3 S3 q3=>k r h3 t3 V3 H3 (S1.trans S3) q3)
theorem Bp{a b:Expr}{op:CmpOp}(h:E c d env l a V fun x V1=>E c d env l b V1 fun y V2=>J2 c d (compareOp op) x y V2 Q)(hm:behindInMarks op b=false):
  E c d env l (.Compare a [op] [b] p) V Q:=
 fun A s Q' E' R H F k=>wpAny_Compare1 (h A s _ E' R H F fun v h1 t1 V1 H1 S1 q=>q A _ _ E' R H1 (F.after S1) fun w h2 t2 V2 H2 S2 q2=>
  q2 v w rfl rfl A _ _ E' R H2 fun r h3 t3 V3 H3 S3 q3=>k r h3 t3 V3 H3 (S1.trans (S2.trans S3)) q3) hm
theorem CC{t a b:Expr}(h:T c d env l t V fun x V1=>if x=true then E c d env l a V1 Q else E c d env l b V1 Q):E c d env l (.IfExp t a b p) V Q:=
 fun A s Q' E' R H F k=>IfExp_ (h A s _ E' R H F fun v h1 t1 V1 H1 S1 q=>by
  induction v<;>exact q A _ _ E' R H1 (F.after S1) fun w h2 t2 V2 H2 S2 q2=>k w h2 t2 V2 H2 (S1.trans S2) q2)
theorem Bq{a b:Expr}(h:E c d env l a V fun x V1=>Tr c d x V1 fun t V2=>if t=true then E c d env l b V2 Q else Q x V2):E c d env l (.BoolOp .And [a,b] p) V Q:=
 fun A s Q' E' R H F k=>BoolOp_and (h A s _ E' R H F fun v h1 t1 V1 H1 S1 q=>q v rfl A _ _ E' R H1 fun t h2 t2 V2 H2 S2 q2=>by
  cases t
  ·exact k v h2 t2 V2 H2 (S1.trans S2) q2
  ·exact q2 A _ _ E' R H2 (F.after (S1.trans S2)) fun w h3 t3 V3 H3 S3 q3=>k w h3 t3 V3 H3 ((S1.trans S2).trans S3) q3)
theorem CD{a b:Expr}(h:E c d env l a V fun x V1=>Tr c d x V1 fun t V2=>if t=true then Q x V2 else E c d env l b V2 Q):E c d env l (.BoolOp .Or [a,b] p) V Q:=
 fun A s Q' E' R H F k=>BoolOp_or (h A s _ E' R H F fun v h1 t1 V1 H1 S1 q=>q v rfl A _ _ E' R H1 fun t h2 t2 V2 H2 S2 q2=>by
  cases t
  ·exact q2 A _ _ E' R H2 (F.after (S1.trans S2)) fun w h3 t3 V3 H3 S3 q3=>k w h3 t3 V3 H3 ((S1.trans S2).trans S3) q3
  ·exact k v h2 t2 V2 H2 (S1.trans S2) q2)
theorem yJ{a b b':Expr}{r:List Expr}(h:E c d env l a V fun x V1=>Tr c d x V1 fun t V2=>if t=true then E c d env l (.BoolOp .And (b::b'::r) p) V2 Q else Q x V2):E c d env l (.BoolOp .And (a::b::b'::r) p) V Q:=
 fun A s Q' E' R H F k=>BoolOp_and (h A s _ E' R H F fun v h1 t1 V1 H1 S1 q=>q v rfl A _ _ E' R H1 fun t h2 t2 V2 H2 S2 q2=>by
  cases t
  ·exact k v h2 t2 V2 H2 (S1.trans S2) q2
  ·exact q2 A _ _ E' R H2 (F.after (S1.trans S2)) fun w h3 t3 V3 H3 S3 q3=>k w h3 t3 V3 H3 ((S1.trans S2).trans S3) q3)
theorem Br{a:Expr}(h:T c d env l a V fun b V'=>QB (!b) V'):T c d env l (.UnaryOp .Not a p) V QB:=
 fun A s Q' E' R H F k=>isTrue_not (h A s _ E' R H F fun v h1 t1 V1 H1 S1 q=>k (!v) h1 t1 V1 H1 S1 q)
theorem yK{a:Expr}{r:List Expr}(h:T c d env l a V fun b V'=>if b=true then T c d env l (.BoolOp .And r p) V' QB else QB false V'):T c d env l (.BoolOp .And (a::r) p) V QB:=
 fun A s Q' E' R H F k=>isTrue_and (h A s _ E' R H F fun v h1 t1 V1 H1 S1 q=>by
  cases v
  ·exact k false h1 t1 V1 H1 S1 q
  ·exact q A _ _ E' R H1 (F.after S1) fun w h2 t2 V2 H2 S2 q2=>k w h2 t2 V2 H2 (S1.trans S2) q2)
theorem yL(h:QB true V):T c d env l (.BoolOp .And [] p) V QB:=fun A s Q' E' R H F k=>isTrue_and_nil (k true s.heap s.toks V H (.refl ..) h)
theorem Bs{a:Expr}{r:List Expr}(h:T c d env l a V fun b V'=>if b=true then QB true V' else T c d env l (.BoolOp .Or r p) V' QB):T c d env l (.BoolOp .Or (a::r) p) V QB:=
 fun A s Q' E' R H F k=>isTrue_or (h A s _ E' R H F fun v h1 t1 V1 H1 S1 q=>by
  cases v
  ·exact q A _ _ E' R H1 (F.after S1) fun w h2 t2 V2 H2 S2 q2=>k w h2 t2 V2 H2 (S1.trans S2) q2
  ·exact k true h1 t1 V1 H1 S1 q)
theorem yh(h:QB false V):T c d env l (.BoolOp .Or [] p) V QB:=fun A s Q' E' R H F k=>isTrue_or_nil (k false s.heap s.toks V H (.refl ..) h)
theorem Bt{a b:Expr}{op:CmpOp}(h:E c d env l a V fun x V1=>E c d env l b V1 fun y V2=>J2 c d (compareOp op) x y V2 fun r V3=>Tr c d r V3 QB)(hm:behindInMarks op b=false):
  T c d env l (.Compare a [op] [b] p) V QB:=
 fun A s Q' E' R H F k=>wpAny_isTrue_Compare1 (h A s _ E' R H F fun v h1 t1 V1 H1 S1 q=>q A _ _ E' R H1 (F.after S1) fun w h2 t2 V2 H2 S2 q2=>
  q2 v w rfl rfl A _ _ E' R H2 fun r h3 t3 V3 H3 S3 q3=>q3 r rfl A _ _ E' R H3 fun b h4 t4 V4 H4 S4 q4=>k b h4 t4 V4 H4 (S1.trans (S2.trans (S3.trans S4))) q4) hm
theorem v8{e:Expr}(h:E c d env l e V fun x V1=>Tr c d x V1 QB)(he:isTrue e env (eval e env)=(do let v←eval e env;standAt e.pos;holding [v] (truthy v))):T c d env l e V QB:=
 fun A s Q' E' R H F k=>isTrue_plain (h A s _ E' R H F fun v h1 t1 V1 H1 S1 q=>q v rfl A _ _ E' R H1 fun b h4 t4 V4 H4 S4 q4=>k b h4 t4 V4 H4 (S1.trans S4) q4) he
theorem fg{b:Bool}(h:QB b V):Tr c d (.bool b) V QB:=fun v e=>by
 induction v<;>cases e
 exact fun A s Q' E' R H k=>wpAny_truthy_bool (k b s.heap s.toks V H (.refl ..) h)
theorem cN{QL:List Value->St->Prop}(h:QL [] V):Es c d env l pos [] V QL:=eX.pure (a:=([]:List Value)) h
noncomputable def aY(e:Expr):Bool:= !Nat.beq e.ctorIdx 22
theorem f9{e:Expr}{r:List Expr}(h:aY e=true):starEach (e::r) env=(false,eval e env)::starEach r env:=by
 induction e using mV<;>first|rfl|exact(Bool.false_ne_true h).elim
theorem eF{e:Expr}{r:List Expr}{QL:List Value->St->Prop}(hs:aY e=true)
  (h:E c d env l e V fun x V1=>Es c d env l pos r V1 fun xs V2=>QL (x::xs) V2):Es c d env l pos (e::r) V QL:=fun A s Q' E' R H F k=>by
 rw[f9 hs]
 show wpAny _ _ (spliced ((false,eval e env)::backTo pos (starEach r env))) _ _ _
 exact Calls.spliced_cons (h A s _ E' R H F fun v h1 t1 V1 H1 S1 q=>
  q A _ _ E' R H1 (F.after S1) fun w h2 t2 V2 H2 S2 q2=>k (v::w) h2 t2 V2 H2 (S1.trans S2) q2)
theorem tR{v:Expr}{a:Str}(h:E c d env l v V fun x V1=>J1 c d (fun o=>getAttr o a true) x V1 Q)(hb:attributeBase v a env (eval v env)=eval v env):
  E c d env l (.Attribute v a p) V Q:=fun A s Q' E' R H F k=>by
 rw[arm_eval_Attribute,hb]
 refine wpAny_bind (h A s _ E' R H F fun o h1 t1 V1 H1 S1 q=>wpAny_bind (wpAny_standAt (wpAny_bind (wpAny_holding (q o rfl A _ _ E' R H1 fun r h2 t2 V2 H2 S2 q2=>
  wpAny_bind (wpAny_letTemporaryGo (wpAny_pure (k r h2 t2 V2 H2 (S1.trans S2) q2))))))))
noncomputable def dI(V:St):Value->Bool
 | .str .. =>true
 | .ref a=>match rd V a with
   |some (.list _)=>true
   |some (.rlist _)=>true
   |some (.tup _)=>true
   |some (.dict ..)=>true
   |_=>false
 |_=>false
theorem aL{V:St}{a:Addr}{vs:List Value}(h:rd V a=some (.list vs)):dI V (.ref a)=true:=by unfold dI;dsimp only;rw[h]
theorem sK{V:St}{a:Addr}{vs:List Value}(h:rd V a=some (.rlist vs)):dI V (.ref a)=true:=by unfold dI;dsimp only;rw[h]
theorem cP{V:St}{a:Addr}{vs:List Value}(h:rd V a=some (.tup vs)):dI V (.ref a)=true:=by unfold dI;dsimp only;rw[h]
theorem nX{h:Heap}{v:Value}(H:bc c V h)(hs:dI V (er v)=true)(g:Array GenState)(dr:Drawn)(tk:Nat)(os:OsState):
  ∃T id,typeLookup (.type T) "__getitem__"=pure (some (.builtin id))/\Shared.TypeIs {heap:=h,gens:=g,drawn:=dr,toks:=tk,os:=os} v T:=by
 induction v<;>first|exact(Bool.false_ne_true hs).elim|skip
 ·exact⟨"str",_,F.slot_str_getitem.lookup,rfl⟩
 ·rename_i a
  unfold er dI at hs
  dsimp only at hs
  induction hq:rd V a with
  |none=>rw[hq]at hs;cases hs
  |some o=>
   rw[hq]at hs
   have:=H.rd hq
   clear hq
   induction o<;>first|exact(Bool.false_ne_true hs).elim|skip
   ·obtain⟨xs,⟨n,ho⟩,_⟩:=this;exact⟨"list",_,slot_list_getitem.lookup,_,ho,rfl⟩
   ·obtain⟨xs,⟨ob,ho,hc,_⟩,_⟩:=this;exact⟨"list",_,slot_list_getitem.lookup,ob,ho,hc⟩
   ·obtain⟨xs,⟨ob,ho,hc,_⟩,_⟩:=this;exact⟨"tuple",_,F.slot_tuple_getitem.lookup,ob,ho,hc⟩
   ·obtain⟨_,l,⟨ob,es,ho,hc,_⟩,_⟩:=this;exact⟨"dict",_,slot_dict_getitem.lookup,ob,ho,hc.1⟩
theorem jw(slice:Expr)(o i:Value):∃ops,subscripted slice false o i=operate ops (getItem o i):=by
 have k:subscripted slice false o i=operate [o,i] (getItem o i)∨subscripted slice false o i=operate [i,o] (getItem o i):=by
  induction slice using mV<;>first|exact .inl rfl| (rename_i s _;cases s<;>first|exact .inl rfl|exact .inr rfl)
 exact k.elim (fun q=>⟨_,q⟩) fun q=>⟨_,q⟩
theorem Bu{v i:Expr}(h:E c d env l v V fun x V1=>E c d env l i V1 fun y V2=>dI V2 x=true/\J2 c d getItem x y V2 Q):E c d env l (.Subscript v i p) V Q:=fun A s Q' E' R H F k=>by
 rw[arm_eval_Subscript]
 refine wpAny_bind (h A s _ E' R H F fun o h1 t1 V1 H1 S1 q=>wpAny_bind (wpAny_holding (q A _ _ E' R H1 (F.after S1) fun j h2 t2 V2 H2 S2 q2=>wpAny_bind (wpAny_standAt ?_))))
 refine fM (nX H2 q2.1 s.gens s.drawn t2 s.os) fun T id hl hT=>?_
 refine dP (jw i o j) fun ops hs=>?_
 exact tail_any (value:=v) (slice:=i) hT hl (q2.2 o j rfl rfl A _ _ E' R H2 fun r h3 t3 V3 H3 S3 q3=>k r h3 t3 V3 H3 (S1.trans (S2.trans S3)) q3) hs
end
theorem a9(h:Heap):h.get? h.objs.size=none:=by
 induction hq:h.get? h.objs.size with
 |none=>rfl
 |some o=>exact absurd (Heap.lt_size hq) (Nat.lt_irrefl _)
theorem v9{c:Cx}{V:St}{h:Heap}(H:bc c V h):(h.objs.size==sysModules)=false:=by
 have:=modules_low (c.lim.keeps H.base)
 simp only[beq_eq_false_iff_ne,ne_eq];exact Nat.ne_of_gt this
theorem bc.extra{c:Cx}{V:St}{h h':Heap}(H:bc c V h)(hk:∀b ob,h.get? b=some ob->h'.get? b=some ob):bc c V h'/\bM (fun _=>False) V h V h':=
 ⟨⟨fun a o e=>(H.sim a o e).at fun ob q=>hk a ob q,fun b o e=>hk b o (H.base b o e),H.apart⟩,
  ⟨fun b o e _ _=>hk b o e,fun _ _ _ e=>e,fun b o e=>⟨o,hk b o e⟩,fun _ _ e=>e⟩⟩
theorem bc.push{c:Cx}{V:St}{h:Heap}(H:bc c V h)(o:Obj):bc c V (h.push o)/\bM (fun _=>False) V h V (h.push o):=
 H.extra fun b ob e=>Heap.get?_push_of_some _ e
section
variable{c:Cx}{d:Nat}{env:Env}{l:au}{V:St}{pos p:Pos}{Q:Value->St->Prop}{QB:Bool->St->Prop}{QF:Fl->au->St->Prop}
theorem qJ{es:List Expr}(h:Es c d env l p es V fun vs V1=>vs.length<=sizeLine/\∀a,V1 a=none->Q (.ref a) (V1.set a (.list vs))):E c d env l (.List es p) V Q:=fun A s Q' E' R H F k=>
 PyProof.Rows.List_ (h A s _ E' R H F fun vs h1 t1 V1 H1 S1 q=>wpAny_newObj_type (by
  obtain⟨H2,S2⟩:=H1.alloc (a:=h1.objs.size) (h':=h1.push {cls:= .type "list",data:= .seq vs.toArray}) (o:= .list (vs.map er)) (a9 _) (fun b ob e=>Heap.get?_push_of_some _ e)
   ⟨vs.toArray,⟨0,Heap.get?_push_size _ rfl⟩,by simp⟩
  exact k _ _ _ _ H2 (S1.trans S2) (q.2 _ H1.freshSize)) (by show vs.toArray.size<=sizeLine;have:=q.1;simpa using this))
theorem yi{es:List Expr}{n:Nat}(h:Es c d env l p es V fun vs V1=>vs.length<=sizeLine/\∀a,V1 a=none->Q (.ref a) (V1.set a (.tup vs))):E c d env l (.Tuple es n p) V Q:=fun A s Q' E' R H F k=>
 PyProof.Rows.Tuple_ (h A s _ E' R H F fun vs h1 t1 V1 H1 S1 q=>wpAny_newObj_type (by
  obtain⟨H2,S2⟩:=H1.alloc (a:=h1.objs.size) (h':=h1.push {cls:= .type "tuple",data:= .seq vs.toArray}) (o:= .tup (vs.map er)) (a9 _) (fun b ob e=>Heap.get?_push_of_some _ e)
   ⟨vs.toArray,⟨_,Heap.get?_push_size _ rfl,rfl,_,rfl⟩,by simp⟩
  exact k _ _ _ _ H2 (S1.trans S2) (q.2 _ H1.freshSize)) (by show vs.toArray.size<=sizeLine;have:=q.1;simpa using this))
theorem iK{h:Heap}:(h.push {cls:= .type "dict",data:= .dict #[]}).DictAt (PySem.strKind c.prog c.w) h.objs.size [] 0:=
 ⟨_,_,Heap.get?_push_size _ rfl,⟨rfl,rfl,rfl⟩,rfl,fun _ he=>by simp at he,.nil,by simp⟩
theorem ky(h:∀a ep,V a=none->Q (.ref a) (V.set a (.dict [] ep))):E c d env l (.Dict [] [] p) V Q:=fun A s Q' E' R H F k=>
 wpAny_Dict_empty (by
  obtain⟨H2,S2⟩:=H.alloc (a:=s.heap.objs.size) (h':=s.heap.push {cls:= .type "dict",data:= .dict #[]}) (o:= .dict [] 0) (a9 _) (fun b ob e=>Heap.get?_push_of_some _ e)
   ⟨v9 H,[],iK,rfl⟩
  exact k _ _ _ _ H2 S2 (h _ _ H.freshSize))
def pD(c:Cx):Value->Prop
 | .builtin _=>True
 | .type _=>True
 | .ref a=>keepIn c.K (.ref a)=true
 |_=>False
theorem pE{f:Value}{es:List Expr}(hs:es.all aY=true):
  evalArgs f true (backTo pos (starEach es env)) []=(spliced (backTo pos (starEach es env))>>= fun vs=>holding (vs++ []) (do
   let kw←evalAll []
   let a←pure vs
   pure ⟨a,[].zip kw⟩)):=by
 induction es using bD with
 |nil=>rfl
 |cons e r=>
  rw[List.all_cons,Bool.and_eq_true]at hs
  rw[f9 hs.1]
  rfl
theorem gW{f:Value}{es:List Expr}{QL:List Value->St->Prop}(hs:es.all aY=true)(h:Es c d env l pos es V QL):
  eX c d env l (evalArgs f true (backTo pos (starEach es env)) []) V fun a V'=>a.kw=[]/\QL (a.pos.map er) V':=fun A s Q' E' R H F k=>by
 rw[pE hs]
 exact wpAny_bind (h A s _ E' R H F fun vs h1 t1 V1 H1 S1 q=>wpAny_holding (wpAny_bind (wpAny_pure (wpAny_bind (wpAny_pure (wpAny_pure (k ⟨vs,[]⟩ h1 t1 V1 H1 S1 ⟨rfl,q⟩)))))))
theorem gE{es:List Expr}(hs:es.all aY=true):(backTo pos (starEach es env)).any (·.1)=false:=by
 induction es with
 |nil=>rfl
 |cons e r ih=>
  rw[List.all_cons,Bool.and_eq_true]at hs
  rw[f9 hs.1]
  exact ih hs.2
theorem jW{fv:Value}{first:List Value}{es:List Expr}(hk:pD c fv)(hs:es.all aY=true)
  (h:Es c d env l pos es V fun vs V'=>Calls c d fv (first.map er++vs) V' Q):
  eX c d env l (callWith pos fv first (backTo pos (starEach es env)) []) V fun v V'=>Q (er v) V':=fun A s Q' E' R H F k=>by
 have ha:=gW (f:=fv) hs h
 have hn:=gE (env:=env) (pos:=pos) hs
 have gV:∀(a:PySem.Args) h1 t1 V1,bc c V1 h1->bM (fun _=>False) V s.heap V1 h1->(a.kw=[]/\Calls c d fv (first.map er++a.pos.map er) V1 Q)->
   wpAny (model c.prog c.w) A (PySem.call fv (first++a.pos) a.kw) Q' E' {s with heap:=h1,toks:=t1}:=fun a h1 t1 V1 H1 S1 q=>by
  rw[q.1]
  exact q.2 (first++a.pos) (by rw[List.map_append]) A _ _ E' R H1 fun v h2 t2 V2 H2 S2 q2=>k v h2 t2 V2 H2 (S1.trans S2) q2
 cases fv with
 |builtin id=>exact Calls.callWith_builtin hn (ha A s _ E' R H F fun a h1 t1 V1 H1 S1 q=>gV a h1 t1 V1 H1 S1 q)
 |type T=>exact PySem.callWith_type hn (ha A s _ E' R H F fun a h1 t1 V1 H1 S1 q=>gV a h1 t1 V1 H1 S1 q)
 |ref a=>exact callWith_of (by rw[hn];rfl) (keeps_K hk) (ha A s _ E' R H F fun x h1 t1 V1 H1 S1 q=>⟨fun b o e=>H1.base b o (c.kin b o e),gV x h1 t1 V1 H1 S1 q⟩)
 |none=>exact hk.elim
 |ellipsis=>exact hk.elim
 |notImplemented=>exact hk.elim
 |bool b=>exact hk.elim
 |int i t=>exact hk.elim
 |float b t=>exact hk.elim
 |str x t=>exact hk.elim
 |bytes b t=>exact hk.elim
theorem wb{v:Value}(h:pD c (er v)):er v=v:=by
 induction v<;>first|rfl|exact h.elim
theorem qK{f:Expr}{es:List Expr}(h:E c d env l f V fun fv V1=>pD c fv/\Es c d env l p es V1 fun vs V2=>Calls c d fv vs V2 Q)(hs:es.all aY=true)
  (he:eval (.Call f es [] p) env=(do callWith p (←eval f env) [] (backTo p (starEach es env)) [])):E c d env l (.Call f es [] p) V Q:=fun A s Q' E' R H F k=>by
 rw[he]
 exact wpAny_bind (h A s _ E' R H F fun fv h1 t1 V1 H1 S1 q=>by
  dsimp only at q
  have e:=wb q.1
  rw[e]at q
  exact jW (first:=[]) q.1 hs q.2 A _ _ E' R H1 (F.after S1) fun v h2 t2 V2 H2 S2 q2=>k v h2 t2 V2 H2 (S1.trans S2) q2)
def gT(c:Cx)(d:Nat)(m:Str)(x:Value)(V:St)(Q:Value->List Value->St->Prop):Prop:=
 ∀v pl,er v=x->jt c d (getMethod v m pl) V fun r V'=>Q r.1 (r.2.map er) V'
theorem yM{o:Expr}{m:Str}{es:List Expr}{ap:Pos}
  (h:E c d env l o V fun x V1=>gT c d m x V1 fun f first V2=>pD c f/\Es c d env l p es V2 fun vs V3=>Calls c d f (first++vs) V3 Q)
  (hs:es.all aY=true) (hb:attributeBase o m env (eval o env)=eval o env) (hline:(ap.endLine==p.line)=true) (hn:decide (es.length<30)=true):
  E c d env l (.Call (.Attribute o m ap) es [] p) V Q:=fun A s Q' E' R H F k=>by
 show wpAny _ A (do
  let ov←attributeBase o m env (eval o env)
  standAt ap.atName
  methodCall o m ap p env ov (es.length+([]:List Keyword).length) (backTo p (starEach es env)) (backToKw p (keywordEach [] env))) _ _ _
 rw[hb]
 have hfew:methodCallForm (es.length+([]:List Keyword).length) (backTo p (starEach es env)) (backToKw p (keywordEach [] env))=true:=by
  have h1:(backTo p (starEach es env)).all (!·.1)=true:=by
   have:=gE (env:=env) (pos:=p) hs
   rw[List.all_eq_true]
   intro x hx
   have:=List.any_eq_false.mp this x hx
   simpa using this
  show((backTo p (starEach es env)).all (!·.1)&&([]:List (Option Str×Sem Value)).all (·.1.isSome)&&decide (es.length+0+(if true then 0 else 1)<30))=true
  rw[h1]
  simpa using hn
 refine wpAny_bind (h A s _ E' R H F fun ov h1 t1 V1 H1 S1 q=>wpAny_bind (wpAny_standAt ?_))
 unfold methodCall
 rw[hfew]
 refine wpAny_bind (wpAny_holding ?_)
 refine q ov _ rfl A _ _ E' R H1 fun r h2 t2 V2 H2 S2 q2=>?_
 have hpos:methodCallPos true o env ap p=pure p:=by
  unfold methodCallPos
  rw[if_pos (by rw[hline];rfl)]
 show wpAny _ A (methodCallPos true o env ap p>>= fun callPos=>callWith callPos r.1 r.2 (backTo p (starEach es env)) []) _ _ _
 rw[hpos]
 refine wpAny_bind (wpAny_pure ?_)
 exact jW (first:=r.2) q2.1 hs q2.2 A _ _ E' R H2 (F.after (S1.trans S2)) fun v h3 t3 V3 H3 S3 q3=>k v h3 t3 V3 H3 ((S1.trans S2).trans S3) q3
end
def nY(c:Cx)(d:Nat)(env:Env)(l:au)(t:Expr)(v:Value)(V:St)(Q:au->St->Prop):Prop:=
 ∀rv,er rv=v->dy c d env l (assign t env rv) V fun _ l' V'=>Q l' V'
section
variable{c:Cx}{d:Nat}{env:Env}{l:au}{V:St}{pos p:Pos}{Q:Value->St->Prop}{QB:Bool->St->Prop}{QF:Fl->au->St->Prop}{QL:au->St->Prop}
theorem kJ{x:Str}{v:Value}(hk:env.kindOf x=some .local∨env.kindOf x=some .cell)(h:QL (eW l x v) V):nY c d env l (.Name x p) v V QL:=fun rv e A s Q' E' R H F k=>
 wpAny_assign_Name (jv hk (Q:=fun _ l' V'=>QL l' V') (e▸h) A s Q' E' R H F k)
def tS(c:Cx)(d:Nat)(f:Value->Value->Sem Unit)(o v:Value)(V:St)(Q:St->Prop):Prop:=
 ∀ro rv,er ro=o->er rv=v->jt c d (f ro rv) V fun _ V'=>Q V'
def wc(c:Cx)(d:Nat)(o i v:Value)(V:St)(Q:St->Prop):Prop:=
 ∀ro ri rv,er ro=o->er ri=i->er rv=v->jt c d (setItem ro ri rv) V fun _ V'=>Q V'
theorem jX{M:Model}{A:Around}{E:Value->Shared->Prop}{s:Shared}{vs keep:List Value}{Q:Unit->Shared->Prop}(h:Q () s):wpAny M A (release vs keep) Q E s:=by
 unfold release
 generalize (vs.filter fun| .ref _=>true|_=>false)=rs
 induction rs with
 |nil=>exact wpAny_pure h
 |cons x r ih=>
  induction r using bD with
  |nil=>exact wpAny_pure h
  |cons y r=>
   unfold release.go
   exact wpAny_bind (wpAny_holding (wpAny_point ih))
theorem aX{o:Expr}{a:Str}{v:Value}(h:E c d env l o V fun x V1=>tS c d (fun o v=>setAttr o a v) x v V1 fun V2=>QL l V2):nY c d env l (.Attribute o a p) v V QL:=fun rv e A s Q' E' R H F k=>by
 show wpAny _ A (do
  let ov←holding [rv] (eval o env)
  standAt p.atName
  holding [rv,ov] (setAttr ov a rv)
  release [rv,ov] []) _ _ _
 refine wpAny_bind (wpAny_holding (h A s _ E' R H F fun ov h1 t1 V1 H1 S1 q=>wpAny_bind (wpAny_standAt (wpAny_bind (wpAny_holding (q ov rv rfl e A _ _ E' R H1 fun _ h2 t2 V2 H2 S2 q2=>?_))))))
 exact jX (k () h2 t2 l V2 H2 ((S1.trans S2).weaken fun _ f=>f.elim) (F.after (S1.trans S2)) q2)
theorem wd{o i:Expr}{v:Value}(h:E c d env l o V fun x V1=>E c d env l i V1 fun y V2=>wc c d x y v V2 fun V3=>QL l V3):nY c d env l (.Subscript o i p) v V QL:=fun rv e A s Q' E' R H F k=>by
 have he:∃ks:Value->Value->List Value,assign (.Subscript o i p) env rv=(do
   let ov←holding [rv] (eval o env)
   let iv←holding [rv,ov] (eval i env)
   standAt p
   holding [rv,ov,iv] (setItem ov iv rv)
   release (ks ov iv) []):=⟨_,rfl⟩
 refine dP he fun ks he=>?_
 rw[he]
 refine wpAny_bind (wpAny_holding (h A s _ E' R H F fun ov h1 t1 V1 H1 S1 q=>wpAny_bind (wpAny_holding (q A _ _ E' R H1 (F.after S1) fun iv h2 t2 V2 H2 S2 q2=>
  wpAny_bind (wpAny_standAt (wpAny_bind (wpAny_holding (q2 ov iv rv rfl rfl e A _ _ E' R H2 fun _ h3 t3 V3 H3 S3 q3=>?_))))))))
 exact jX (k () h3 t3 l V3 H3 (((S1.trans S2).trans S3).weaken fun _ f=>f.elim) (F.after ((S1.trans S2).trans S3)) q3)
def kc(c:Cx)(d:Nat)(env:Env)(l:au):List Expr->List Value->St->(au->St->Prop)->Prop
 |t::ts,v::vs,V,Q=>nY c d env l t v V fun l1 V1=>kc c d env l1 ts vs V1 Q
 |_,_,V,Q=>Q l V
theorem bG{t:Expr}{r:List Expr}(h:aY t=true):assignEach (t::r) env=(false,assign t env)::assignEach r env:=by
 induction t using mV<;>first|rfl|exact(Bool.false_ne_true h).elim
theorem dR{ts:List Expr}(h:ts.all aY=true):(assignEach ts env).length=ts.length:=by
 induction ts with
 |nil=>rfl
 |cons t r ih=>rw[List.all_cons,Bool.and_eq_true]at h;rw[bG h.1,List.length_cons,List.length_cons,ih h.2]
theorem eY{ts:List Expr}(h:ts.all aY=true):(assignEach ts env).findIdx? (·.1)=none:=by
 induction ts with
 |nil=>rfl
 |cons t r ih=>rw[List.all_cons,Bool.and_eq_true]at h;rw[bG h.1,List.findIdx?_cons];simp[ih h.2]
theorem iX:∀{ts:List Expr} {rvs:List Value} {l:au} {V:St},ts.all aY=true->kc c d env l ts (rvs.map er) V QL->
  dy c d env l (assignInOrder ((assignEach ts env).map (·.2)) rvs) V fun _ l' V'=>QL l' V'
 | [],rvs,l,V,_,h=>by cases rvs<;>exact dy.pure (a:=()) h
 |t::ts,[],l,V,hs,h=>by
  rw[List.all_cons,Bool.and_eq_true]at hs
  rw[bG hs.1]
  exact dy.pure (a:=()) h
 |t::ts,v::vs,l,V,hs,h=>by
  rw[List.all_cons,Bool.and_eq_true]at hs
  rw[bG hs.1]
  show dy c d env l (do holding vs (assign t env v);assignInOrder ((assignEach ts env).map (·.2)) vs) V _
  exact dy.bind (dy.holding ((h v rfl).mono fun _ l1 V1 q=>iX hs.2 q))
theorem iY{ts:List Expr}{k:Nat}{a:Addr}{vs:List Value}(hr:rd V a=some (.tup vs))(hs:ts.all aY=true)(hl:ts.length=vs.length)(h:kc c d env l ts vs V QL):
  nY c d env l (.Tuple ts k p) (.ref a) V QL:=fun rv e A s Q' E' R H F k=>by
 obtain rfl:rv= .ref a:=by cases rv<;>simp only[er,reduceCtorEq,Value.ref.injEq]at e;rw[e]
 refine be (H.rd hr) fun xs ht hx=>?_
 refine wpAny_assign_Tuple R.1 ht (by rw[dR hs,hl,←hx];simp) (eY hs) fun h' hk=>?_
 refine ff (H.extra (h':=h') fun b ob q=>hk b ob (Nat.ne_of_lt (Heap.lt_size q)) q) fun H1 S1=>?_
 exact iX (QL:=QL) (V:=V) hs (by rw[hx];exact h) A {s with heap:=h'} _ E' R H1 (F.after S1) fun v h2 t2 l2 V2 H2 S2 F2 q2=>k v h2 t2 l2 V2 H2 ((S1.weaken fun _ f=>f.elim).trans S2) F2 q2
theorem dm(h:QF .next l V):SS c d env l [] V QF:=dy.pure (a:=Flow.next) h
theorem aG{st:Stmt}{r:List Stmt}(h:S c d env l st V fun f l1 V1=>match f with| .next=>SS c d env l1 r V1 QF|f=>QF f l1 V1):SS c d env l (st::r) V QF:=fun A s Q' E' R H F k=>
 wpAny_execs_cons (h A s _ E' R H F fun f h1 t1 l1 V1 H1 S1 F1 q=>by
  induction f with
  |next=>exact q A _ _ E' R H1 F1 fun v h2 t2 l2 V2 H2 S2 F2 q2=>k v h2 t2 l2 V2 H2 (S1.trans S2) F2 q2
  |brk=>exact k _ h1 t1 l1 V1 H1 S1 F1 q
  |cont=>exact k _ h1 t1 l1 V1 H1 S1 F1 q
  |ret v=>exact k _ h1 t1 l1 V1 H1 S1 F1 q)
theorem yj{e:Expr}(h:E c d env l e V fun v V1=>QF (.ret v) l V1):S c d env l (.Return (some e) p) V QF:=fun A s Q' E' R H F k=>
 wpAny_Return_some (h A s _ E' R H F fun v h1 t1 V1 H1 S1 q=>k (.ret v) h1 t1 l V1 H1 (S1.weaken fun _ f=>f.elim) (F.after S1) q)
theorem Bv{t:Expr}{a b:List Stmt}(h:T c d env l t V fun x V1=>if x=true then SS c d env l a V1 QF else SS c d env l b V1 QF):S c d env l (.If t a b p) V QF:=fun A s Q' E' R H F k=>
 wpAny_If (h A s _ E' R H F fun x h1 t1 V1 H1 S1 q=>by
  induction x<;>exact q A _ _ E' R H1 (F.after S1) fun v h2 t2 l2 V2 H2 S2 F2 q2=>k v h2 t2 l2 V2 H2 ((S1.weaken fun _ f=>f.elim).trans S2) F2 q2)
theorem mw{prog:Program}{w:World}{A:Around}{E:Value->Shared->Prop}{s:Shared}{e:Expr}{v:Value}{Q:Flow->Shared->Prop}(h:Q .next s):wpAny (model prog w) A (dropValue e p v) Q E s:=by
 have k:dropValue e p v=pure .next∨dropValue e p v=dropValue (.Constant .none 0 p) p v:=by induction e using mV<;>first|exact .inl rfl|exact .inr (by kernel_rfl)
 rcases k with k|k<;>rw[k]
 ·exact wpAny_pure h
 induction v<;>first|exact wpAny_pure h|skip
 ·exact wpAny_bind (wpAny_standAt (wpAny_bind (wpAny_runValue (codeAny_builtin entry_let_go (show wpAny _ _ (ret .none) _ _ s from wpAny_pure (wpAny_pure h))))))
theorem qL{e:Expr}(h:E c d env l e V fun v V1=>QF .next l V1)(hs:swapsWith e none p.line env=pure false):S c d env l (.Expr e p) V QF:=fun A s Q' E' R H F k=>by
 have hi:interactive env=false:=by unfold interactive;rw[F.kind];rfl
 show wpAny _ A (do
  standAt p
  if interactive env then printExpr (eval e env)
  else if←swapsWith e none p.line env then do evalThenUse e env fun _=>point;pure .next
  else do dropValue e p (←eval e env)) _ _ _
 rw[hi,hs]
 refine wpAny_bind (wpAny_standAt ?_)
 show wpAny _ A (pure false>>= fun b=>if b=true then _ else(do dropValue e p (←eval e env))) _ _ _
 refine wpAny_bind (wpAny_pure ?_)
 exact wpAny_bind (h A s _ E' R H F fun v h1 t1 V1 H1 S1 q=>mw (k .next h1 t1 l V1 H1 (S1.weaken fun _ f=>f.elim) (F.after S1) q))
theorem kK{v:Value}{f:Value->Sem Unit}:assignStores env v none [f]=(f v>>= fun _=>Pure.pure Flow.next):=rfl
theorem pF{v:Value}{x y:Str}{fs:List (Value->Sem Unit)}:assignStores env v (some [x,y]) fs=(rule "assign.swapped-stores">>= fun _=>unpackItems v 2 none>>= fun items=>assignInOrder [bindName env y,bindName env x] items.reverse>>= fun _=>Pure.pure Flow.next):=rfl
theorem br{t v:Expr}(h:E c d env l v V fun x V1=>nY c d env l t x V1 fun l2 V2=>QF .next l2 V2)(hs:swapsWith v (some t) p.line env=pure false)(hw:swappedStores [t] v env=pure none)(hn:aY t=true):
  S c d env l (.Assign [t] v p) V QF:=fun A s Q' E' R H F k=>by
 rw[arm_exec_Assign,hw,bG hn]
 refine wpAny_bind (wpAny_standAt ?_)
 have hs':swapsWithSole [t] v p.line env=pure false:=hs
 rw[hs']
 refine wpAny_bind (wpAny_pure ?_)
 rw[if_neg (by decide)]
 refine wpAny_bind (h A s _ E' R H F fun x h1 t1 V1 H1 S1 q=>wpAny_bind (wpAny_pure ?_))
 rw[show((false,assign t env)::assignEach [] env).map (·.2)=[assign t env]from rfl,kK]
 exact wpAny_bind (q x rfl A _ _ E' R H1 (F.after S1) fun _ h2 t2 l2 V2 H2 S2 F2 q2=>wpAny_pure (k .next h2 t2 l2 V2 H2 ((S1.weaken fun _ f=>f.elim).trans S2) F2 q2))
end
section
variable{c:Cx}{d:Nat}{env:Env}{l:au}{V:St}{pos p:Pos}{Q:Value->St->Prop}{QB:Bool->St->Prop}{QF:Fl->au->St->Prop}{QL:au->St->Prop}
theorem tT{x y:Str}(h:x≠y)(v w:Value)(z:Str):(eW (eW l x v) y w).lookup z=(eW (eW l y w) x v).lookup z:=by
 simp only[cM]
 by_cases h1:z=y
 ·subst h1;simp[Ne.symm h]
 ·simp[h1]
theorem tU{x:Str}{v:Value}{QU:Unit->au->St->Prop}(hk:env.kindOf x=some .local∨env.kindOf x=some .cell)(h:QU () (eW l x (er v)) V):
  dy c d env l (bindName env x v) V QU:=fun A s Q' E' R H F k=>wpAny_bindName (jv hk h A s Q' E' R H F k)
theorem yN{x y:Str}{px py pt pv:Pos}{kt kv:Nat}{a b:Expr}(hxy:x≠y)
  (hx:env.kindOf x=some .local∨env.kindOf x=some .cell) (hy:env.kindOf y=some .local∨env.kindOf y=some .cell)
  (hsw:env.scope.kind= .function->swappedStores [.Tuple [.Name x px,.Name y py] kt pt] (.Tuple [a,b] kv pv) env=pure none∨swappedStores [.Tuple [.Name x px,.Name y py] kt pt] (.Tuple [a,b] kv pv) env=pure (some [x,y]))
  (ha:aY a=true) (hb:aY b=true)
  (h:E c d env l a V fun va V1=>E c d env l b V1 fun vb V2=>QF .next (eW (eW l x va) y vb) V2):
  S c d env l (.Assign [.Tuple [.Name x px,.Name y py] kt pt] (.Tuple [a,b] kv pv) p) V QF:=fun A s Q' E' R H F k=>by
 rw[arm_exec_Assign]
 refine wpAny_bind (wpAny_standAt ?_)
 have hs:swapsWithSole [.Tuple [.Name x px,.Name y py] kt pt] (.Tuple [a,b] kv pv) p.line env=pure false:=rfl
 rw[hs]
 refine wpAny_bind (wpAny_pure ?_)
 rw[if_neg (by decide)]
 refine wpAny_bind (PyProof.Rows.Tuple_ ?_)
 have hes:Es c d env l pv [a,b] V fun vs V2=>∃va vb,vs=[va,vb]/\QF .next (eW (eW l x va) y vb) V2:=
  eF ha (h.mono fun va V1 q=>eF hb (q.mono fun vb V2 q2=>cN ⟨va,vb,rfl,q2⟩))
 refine hes A s _ E' R H F fun vs h1 t1 V1 H1 S1 q=>?_
 refine fM q fun va vb e q=>?_
 obtain⟨ra,rb,rfl,rfl,rfl⟩:∃ra rb,vs=[ra,rb]/\er ra=va/\er rb=vb:=by
  induction vs using bD with
  |nil=>cases e
  |cons ra r=>induction r using bD with
   |nil=>cases e
   |cons rb r=>induction r using bD with
    |nil=>simp only[List.map_cons,List.map_nil,List.cons.injEq,and_true]at e;exact⟨ra,rb,rfl,e.1,e.2⟩
    |cons _ _=>simp at e
 refine wpAny_newObj_type ?_ (by show(2:Nat)<=sizeLine;rw[sizeLine_eq];decide)
 refine ff (H1.push {cls:= .type "tuple",data:= .seq [ra,rb].toArray}) fun H2 S2=>?_
 have ht:(h1.push {cls:= .type "tuple",data:= .seq [ra,rb].toArray}).IsTuple h1.objs.size #[ra,rb]:=⟨_,Heap.get?_push_size _ rfl,rfl,_,rfl⟩
 have F2:=F.after (S1.trans S2)
 rcases hsw F.kind with hsw|hsw
 ·rw[hsw]
  refine wpAny_bind (wpAny_pure ?_)
  rw[bG rfl,show((false,assign (.Tuple [.Name x px,.Name y py] kt pt) env)::assignEach [] env).map (·.2)=[assign (.Tuple [.Name x px,.Name y py] kt pt) env]from rfl,kK]
  refine wpAny_bind (wpAny_assign_Tuple R.1 ht rfl rfl fun h' hk=>?_)
  refine ff (H2.extra (h':=h') fun b ob q=>hk b ob (Nat.ne_of_lt (Heap.lt_size q)) q) fun H3 S3=>?_
  refine iX (c:=c) (d:=d) (QL:=fun l' V'=>QF .next l' V') (V:=V1) (l:=l) (ts:=[.Name x px,.Name y py]) (rvs:=[ra,rb]) rfl ?_ A {s with heap:=h',toks:=t1} _ E' R H3 (F2.after S3) fun v h4 t4 l4 V4 H4 S4 F4 q4=>
   wpAny_pure (k .next h4 t4 l4 V4 H4 ((((S1.trans S2).trans S3).weaken fun _ f=>f.elim).trans S4) F4 q4)
  exact kJ hx (kJ hy q)
 ·rw[hsw]
  refine wpAny_bind (wpAny_pure ?_)
  rw[pF]
  refine wpAny_bind (wpAny_rule (wpAny_bind (wpAny_unpackItems_tuple (items:= #[ra,rb]) R.1 ht fun h' hk=>?_)))
  refine ff (H2.extra (h':=h') fun b ob q=>hk b ob (Nat.ne_of_lt (Heap.lt_size q)) q) fun H3 S3=>?_
  have Bf:dy c d env l (assignInOrder [bindName env y,bindName env x] [rb,ra]) V1 fun _ l' V'=>(∀z,l'.lookup z=(eW (eW l x (er ra)) y (er rb)).lookup z)/\QF .next (eW (eW l x (er ra)) y (er rb)) V':=by
   show dy c d env l (do holding [ra] (bindName env y rb);do holding [] (bindName env x ra);pure ()) V1 _
   refine dy.bind (dy.holding (tU hy (dy.bind (dy.holding (tU hx (dy.pure ⟨fun z=>?_,q⟩))))))
   exact(tT hxy _ _ z).symm
  refine wpAny_bind (Bf A {s with heap:=h',toks:=t1} _ E' R H3 (F2.after S3) fun v h4 t4 l4 V4 H4 S4 F4 q4=>wpAny_pure (k .next h4 t4 _ V4 H4 ((((S1.trans S2).trans S3).weaken fun _ f=>f.elim).trans S4) (F4.lookups q4.1) q4.2))
def gc(c:Cx)(d:Nat)(env:Env)(t:Expr)(body:List Stmt)(l:au)(V:St)(QF:Fl->au->St->Prop):Prop:=
 ∀(A:Around) (s:Shared) (R':Result->Shared->Prop),gD A d->bc c V s.heap->aW c env l V s.heap->
  (∀f h' tk l' V',bc c V' h'->bM (mv env) V s.heap V' h'->aW c env l' V' h'->QF (Bk f) l' V'->R' (.ok f) {s with heap:=h',toks:=tk})->
  codeAny (model c.prog c.w) A (.whileLoop t body [] env) R' s
theorem gF{t:Expr}{body:List Stmt}(h:T c d env l t V fun b V1=>if b=true then SS c d env l body V1 (fun f l1 V2=>match f with| .next=>gc c d env t body l1 V2 QF| .ret v=>QF (.ret v) l1 V2| .other=>False)else QF .next l V1):
  gc c d env t body l V QF:=fun A s R' R H F k=>by
 refine codeAny_of_tree ?_
 show wpAny _ A ((whileTurn t body [] env).onRaise (fun x=>do noteFrame x env;theTreesLotGoes x)) _ _ s
 refine wpAny_noted ?_
 unfold whileTurn
 refine wpAny_bind (h A s _ _ R H F fun b h1 t1 V1 H1 S1 q=>?_)
 induction b with
 |false=>
  rw[if_neg Bool.false_ne_true]at q ⊢
  exact wpAny_bind (wpAny_execs_nil (wpAny_pure (k .next h1 t1 l V1 H1 (S1.weaken fun _ f=>f.elim) (F.after S1) q)))
 |true=>
  rw[if_pos rfl]at q ⊢
  refine wpAny_bind (q A _ _ _ R H1 (F.after S1) fun f h2 t2 l2 V2 H2 S2 F2 q2=>?_)
  have S12:=(S1.weaken (Y:=mv env) fun _ f=>f.elim).trans S2
  induction f with
  |next=>exact wpAny_pure ⟨rfl,q2 A _ R' R H2 F2 fun f h3 t3 l3 V3 H3 S3 F3 q3=>k f h3 t3 l3 V3 H3 (S12.trans S3) F3 q3⟩
  |cont=>exact q2.elim
  |brk=>exact q2.elim
  |ret v=>exact wpAny_pure (k (.ret v) h2 t2 l2 V2 H2 S12 F2 q2)
theorem iZ{t:Expr}{body:List Stmt}(h:gc c d env t body l V QF):S c d env l (.While t body [] p) V QF:=fun A s Q' E' R H F k=>
 wpAny_While (h A s _ R H F fun f h1 t1 l1 V1 H1 S1 F1 q=>k f h1 t1 l1 V1 H1 S1 F1 q)
end
inductive pu where
 |list (a:Addr)
 |tup (a:Addr)
 |keys (a:Addr) (n:Nat) (ep:Nat)
 |range (n:Nat)
 |rev (a:Addr) (n:Nat)
 |str (x:Str)
noncomputable def nx(V:St):pu->Nat->Option (Option Value)
 | .list a,i=>match rd V a with
   |some (.list vs)=>some vs[i]?
   |_=>none
 | .tup a,i=>match rd V a with
   |some (.tup vs)=>some vs[i]?
   |_=>none
 | .keys a n ep,i=>match rd V a with
   |some (.dict kvs ep')=>if ep'=ep/\kvs.length=n then some (kvs[i]?.map fun p=> .str p.1 0)else none
   |_=>none
 | .range n,i=>some (if i<n then some (.int i 0)else none)
 | .rev a n,i=>match rd V a with
   |some (.list vs)=>if n=vs.length then some (if i<n then vs[n -1 -i]? else none)else none
   |_=>none
 | .str x,i=>some (x.cps[i]?.map fun c=> .str ⟨#[c]⟩ 0)
def i6(h:Heap)(it:Addr):pu->Nat->Prop
 | .list a,i=>h.IsListIter it a i
 | .tup a,i=>h.IsTupleIter it a i
 | .keys a n ep,i=>h.IsKeyIter it a i n ep
 | .range n,i=>i<=n/\IsRangeIter h it i (n -i) 1
 | .rev a n,i=>i<=n/\h.IsRevIter it a ((n:Int) -1 -i)
 | .str x,i=>∃T t,(T="str_ascii_iterator"∨T="str_iterator")/\h.IsStrIter it T x t i
theorem i6.live{h:Heap}{it:Addr}{src:pu}{i:Nat}(x:i6 h it src i):∃o,h.get? it=some o:=by
 cases src with
 |list a=>exact let ⟨o,ho,_⟩:=x;⟨o,ho⟩
 |tup a=>exact let ⟨o,ho,_⟩:=x;⟨o,ho⟩
 |keys a n ep=>exact let ⟨o,ho,_⟩:=x;⟨o,ho⟩
 |range n=>exact⟨_,x.2⟩
 |rev a n=>exact let ⟨_,o,ho,_⟩:=x;⟨o,ho⟩
 |str t=>exact let ⟨_,_,_,o,ho,_⟩:=x;⟨o,ho⟩
theorem i6.at{h h':Heap}{it:Addr}{src:pu}{i:Nat}(x:i6 h it src i)(e:∀o,h.get? it=some o->h'.get? it=some o):i6 h' it src i:=by
 cases src with
 |list a=>exact let ⟨o,ho,r⟩:=x;⟨o,e _ ho,r⟩
 |tup a=>exact let ⟨o,ho,r⟩:=x;⟨o,e _ ho,r⟩
 |keys a n ep=>exact let ⟨o,ho,r⟩:=x;⟨o,e _ ho,r⟩
 |range n=>exact⟨x.1,e _ x.2⟩
 |rev a n=>exact let ⟨q,o,ho,r⟩:=x;⟨q,o,e _ ho,r⟩
 |str t=>exact let ⟨T,u,q,o,ho,r⟩:=x;⟨T,u,q,o,e _ ho,r⟩
noncomputable def jy(T:Value):Bool:=match T with
 | .type n=>["enumerate","zip","dict_itemiterator","dict_reverseitemiterator","odict_iterator","itertools.zip_longest","itertools.pairwise"].contains n
 |_=>false
theorem i6.cls{h:Heap}{it:Addr}{src:pu}{i:Nat}(x:i6 h it src i):∃o,h.get? it=some o/\jy o.cls=false:=by
 cases src with
 |list a=>exact let ⟨o,ho,hc,_⟩:=x;⟨o,ho,by rw[hc];decide⟩
 |tup a=>exact let ⟨o,ho,hc,_⟩:=x;⟨o,ho,by rw[hc];decide⟩
 |keys a n ep=>exact let ⟨o,ho,hc,_⟩:=x;⟨o,ho,by rw[hc];decide⟩
 |range n=>exact⟨_,x.2,rfl⟩
 |rev a n=>exact let ⟨_,o,ho,hc,_⟩:=x;⟨o,ho,by rw[hc];decide⟩
 |str t=>
  obtain⟨T,u,q,o,ho,hc,_⟩:=x
  refine⟨o,ho,?_⟩
  rw[hc]
  rcases q with rfl|rfl<;>decide
theorem i7{M:Model}{A:Around}{E:Value->Shared->Prop}{s:Shared}{t:Expr}{it:Addr}{v:Value}{o:Obj}{Q:Unit->Shared->Prop}(ho:s.heap.get? it=some o)(hc:jy o.cls=false)(h:Q () s):
  wpAny M A (letOwnedTupleGo t (.ref it) v) Q E s:=by
 have k:letOwnedTupleGo t (.ref it) v=pure ()∨letOwnedTupleGo t (.ref it) v=letOwnedTupleGo (.Tuple [] 0 ⟨0,0,0,0⟩) (.ref it) v:=by induction t using mV<;>first|exact .inl rfl|exact .inr rfl
 rcases k with k|k<;>rw[k]
 ·exact wpAny_pure h
 induction v<;>first|exact wpAny_pure h|skip
 refine wpAny_bind (wpAny_load ho ?_)
 obtain⟨cl,_,da,_⟩:=o
 induction cl<;>(try exact wpAny_pure h)
 induction da<;>(try exact wpAny_pure h)
 dsimp only[jy]at hc
 dsimp only
 rw[hc,Bool.false_and,if_neg Bool.false_ne_true]
 exact wpAny_pure h
theorem iL{xs:Array Value}{vs:List Value}(h:xs.toList.map er=vs)(i:Nat):vs[i]? =xs[i]?.map er:=by
 subst h;simp
theorem rP{c:Cx}{V:St}{it:Addr}{src:pu}{i:Nat}{r:Option Value}{A:Around}{s:Shared}{Q':Option Value->Shared->Prop}{E':Value->Shared->Prop}(hh:A.handled=none)
  (H:bc c V s.heap) (X:i6 s.heap it src i) (e:nx V src i=some r)
  (k:∀rv h' tk,rv.map er=r->(rv.isSome=true->i6 h' it src (i+1))->(∀b o,b≠it->s.heap.get? b=some o->h'.get? b=some o)->Q' rv {s with heap:=h',toks:=tk}):
  wpAny (model c.prog c.w) A (pyNext (.ref it)) Q' E' s:=by
 cases src with
 |list a=>
  dsimp only[nx]at e
  induction hr:rd V a with
  |none=>rw[hr]at e;cases e
  |some o=>
   rw[hr]at e
   induction o<;>simp only[reduceCtorEq,Option.some.injEq]at e
   rename_i vs
   refine be (H.rd hr) fun xs hl hx=>?_
   rw[iL hx]at e
   induction hi:xs[i]? with
   |none=>exact wpAny_pyNext_list_end hh X hl.isList hi fun h' hk=>k none h' s.toks (by rw[hi]at e;exact e) (fun f=>by cases f) fun b o hb q=>hk b o hb q
   |some v=>exact wpAny_pyNext_list_item X hl.isList hi fun h' hit hs=>k (some v) h' s.toks (by rw[hi]at e;exact e) (fun _=>hit) fun b o hb q=>hs.extBut b o hb q
 |tup a=>
  dsimp only[nx]at e
  induction hr:rd V a with
  |none=>rw[hr]at e;cases e
  |some o=>
   rw[hr]at e
   induction o<;>simp only[reduceCtorEq,Option.some.injEq]at e
   rename_i vs
   refine be (H.rd hr) fun xs hl hx=>?_
   rw[iL hx]at e
   induction hi:xs[i]? with
   |none=>exact wpAny_pyNext_tuple_end hh X hl hi fun h' hk=>k none h' s.toks (by rw[hi]at e;exact e) (fun f=>by cases f) fun b o hb q=>hk b o hb q
   |some v=>exact wpAny_pyNext_tuple_item X hl hi fun h' hit hs=>k (some v) h' s.toks (by rw[hi]at e;exact e) (fun _=>hit) fun b o hb q=>hs.extBut b o hb q
 |keys a n ep=>
  dsimp only[nx]at e
  induction hr:rd V a with
  |none=>rw[hr]at e;cases e
  |some o=>
   rw[hr]at e
   induction o<;>simp only[reduceCtorEq]at e
   rename_i kvs ep'
   split at e
   ·rename_i hq
    refine ff hq fun z0 hn=>?_;subst z0
    cases e
    obtain⟨_,l,hd,hm⟩:=H.rd hr
    have hlen:l.length=n:=by rw[←hn,←hm];simp
    subst hlen
    induction hi:l[i]? with
    |none=>exact wpAny_pyNext_dict_end hh X hd hi fun h' hk=>k none h' s.toks (by rw[←hm];simp[hi]) (fun f=>by cases f) fun b o hb q=>hk b o hb q
    |some v=>
     obtain⟨kk,vv⟩:=v
     refine wpAny_pyNext_dict_item X hd hi fun key h' hkey hit hs=>k (some key) h' s.toks ?_ (fun _=>hit) fun b o hb q=>hs.extBut b o hb q
     refine dP (Value.isStrOf_shape hkey) fun u z1=>?_;subst z1
     rw[←hm];simp[hi,er]
   ·cases e
 |range n=>
  dsimp only[nx]at e
  refine ff X fun hin X=>?_
  by_cases hi:i<n
  ·rw[if_pos hi]at e
   refine wpAny_pyNext_range_item X (by lia) fun h' hit hs=>k _ h' _ (by simpa [er]using e) (fun _=>⟨hi,?_⟩) fun b o hb q=>hs.extBut b o hb q
   have e1:((i:Int)+1)=((i+1:Nat):Int):=by lia
   have e2:((n:Int) -i -1)=((n:Int) -(i+1:Nat)):=by lia
   rw[e1,e2]at hit;exact hit
  ·rw[if_neg hi]at e
   exact wpAny_pyNext_range_end hh X (by lia) fun h' hk=>k none h' s.toks (by simpa using e) (fun f=>by cases f) fun b o hb q=>hk b o hb q
 |rev a n=>
  dsimp only[nx]at e
  refine ff X fun hin X=>?_
  induction hr:rd V a with
  |none=>rw[hr]at e;cases e
  |some o=>
   rw[hr]at e
   induction o<;>simp only[reduceCtorEq]at e
   rename_i vs
   refine be (H.rd hr) fun xs hl hx=>?_
   split at e
   ·rename_i hn
    by_cases hi:i<n
    ·rw[if_pos hi,iL hx]at e
     have hsz:xs.size=n:=by rw[hn,←hx];simp
     have e1:((n:Int) -1 -i)=((n -1 -i:Nat):Int):=by rw[Int.natCast_sub (Nat.le_sub_one_of_lt hi),Int.natCast_sub (Nat.zero_lt_of_lt hi)];rfl
     rw[e1]at X
     have hlt:n -1 -i<xs.size:=by rw[hsz];exact Nat.lt_of_le_of_lt (Nat.sub_le _ _) (Nat.sub_lt (Nat.zero_lt_of_lt hi) Nat.one_pos)
     have hv:xs[n -1 -i]? =some (xs[n -1 -i]'hlt):=Array.getElem?_eq_getElem hlt
     refine wpAny_pyNext_rev_item X hl.isList hv fun h' hit hs=>k _ h' s.toks (by rw[hv]at e;exact Option.some.inj e) (fun _=>⟨hi,?_⟩) fun b o hb q=>hs.extBut b o hb q
     have e2:(((n -1 -i:Nat):Int) -1)=((n:Int) -1 -(i+1:Nat)):=by rw[←e1,Int.sub_sub];rfl
     rw[e2]at hit;exact hit
    ·rw[if_neg hi]at e
     have e1:((n:Int) -1 -i)= -1:=by lia
     rw[e1]at X
     exact wpAny_pyNext_rev_end hh X fun h' hk=>k none h' s.toks (by simpa using e) (fun f=>by cases f) fun b o hb q=>hk b o hb q
   ·cases e
 |str x=>
  dsimp only[nx]at e
  refine fM X fun T t hT X=>?_
  rcases hT with rfl|rfl
  ·induction hi:x.cps[i]? with
   |none=>exact wpAny_pyNext_ascii_end hh X hi fun h' hk=>k none h' s.toks (by rw[hi]at e;simpa using e) (fun f=>by cases f) fun b o hb q=>hk b o hb q
   |some v=>exact wpAny_pyNext_ascii_item X hi fun h' hit hs=>k _ h' _ (by rw[hi]at e;simpa [er]using e) (fun _=>⟨_,t,.inl rfl,hit⟩) fun b o hb q=>hs.extBut b o hb q
  ·induction hi:x.cps[i]? with
   |none=>exact wpAny_pyNext_wide_end hh X hi fun h' hk=>k none h' s.toks (by rw[hi]at e;simpa using e) (fun f=>by cases f) fun b o hb q=>hk b o hb q
   |some v=>exact wpAny_pyNext_wide_item X hi fun h' hit hs=>k _ h' _ (by rw[hi]at e;simpa [er]using e) (fun _=>⟨_,t,.inr rfl,hit⟩) fun b o hb q=>hs.extBut b o hb q
noncomputable def dG(V:St):Value->Option pu
 | .ref a=>match rd V a with
   |some (.list _)=>some (.list a)
   |some (.tup _)=>some (.tup a)
   |some (.dict kvs ep)=>some (.keys a kvs.length ep)
   |some (.range n)=>if 0<=n/\n<2^62 then some (.range n.toNat)else none
   |_=>none
 | .str x _=>some (.str x)
 |_=>none
theorem pG{c:Cx}{V:St}{src:pu}{v:Value}{A:Around}{s:Shared}{Q':Value->Shared->Prop}{E':Value->Shared->Prop}
  (H:bc c V s.heap) (e:dG V (er v)=some src)
  (k:∀o,i6 (s.heap.push o) s.heap.objs.size src 0->Q' (.ref s.heap.objs.size) {s with heap:=s.heap.push o}):
  wpAny (model c.prog c.w) A (pyIter v) Q' E' s:=by
 induction v<;>first|exact nomatch (e:none=some src) |skip
 ·rename_i x t
  cases e
  cases ha:x.cps.all (· <128)
  ·exact wpAny_pyIter_wide ha (k _ ⟨_,t,.inr rfl,_,Heap.get?_push_size _ rfl,rfl,rfl⟩)
  ·exact wpAny_pyIter_ascii ha (k _ ⟨_,t,.inl rfl,_,Heap.get?_push_size _ rfl,rfl,rfl⟩)
 ·rename_i a
  unfold er dG at e
  dsimp only at e
  induction hr:rd V a with
  |none=>rw[hr]at e;cases e
  |some o=>
   rw[hr]at e
   have:=H.rd hr
   induction o<;>first|exact nomatch (e:none=some src) | (replace e:=Option.some.inj e) |dsimp only at e
   ·subst e
    refine be this fun xs hl hx=>?_
    exact wpAny_pyIter_list hl.isList (k _ ⟨_,Heap.get?_push_size _ rfl,rfl,rfl⟩)
   ·subst e
    refine be this fun xs hl hx=>?_
    exact wpAny_pyIter_tuple hl (k _ ⟨_,Heap.get?_push_size _ rfl,rfl,rfl⟩)
   ·subst e
    rename_i kvs ep
    obtain⟨hs,l,hd,hm⟩:=this
    have hlen:l.length=kvs.length:=by rw[←hm];simp
    refine wpAny_pyIter_dict hs hd ?_
    rw[hlen]
    exact k _ ⟨_,Heap.get?_push_size _ rfl,rfl,rfl⟩
   ·rename_i n
    split at e
    ·rename_i hn
     cases e
     refine Do this fun t1 t2 t3 hr'=>?_
     have hsz:Builtin.Range.rangeSize 0 n 1=((n.toNat:Nat):Int):=by
      unfold Builtin.Range.rangeSize
      simp only[show(1:Int)>0 from by decide,if_true]
      split<;>lia
     have hsm:Builtin.Range.small 0 n 1=true:=by
      unfold Builtin.Range.small
      rw[hsz]
      simp only[Builtin.Range.rangeFitsLong,Bool.and_eq_true,Bool.or_eq_true,decide_eq_true_eq,beq_iff_eq]
      refine⟨⟨⟨⟨?_,?_⟩,?_⟩,?_⟩,?_⟩<;>first|lia| (right;simp only[show(1:Int)>0 from by decide,if_true];simp only[Bool.and_eq_true,decide_eq_true_eq];lia)
     refine wpAny_pyIter_range hr' hsm ?_
     rw[hsz]
     refine k _ ⟨Nat.zero_le _,?_⟩
     show _=_
     rw[Heap.get?_push_size _ rfl]
     simp[rawInt]
    ·cases e
def mx(c:Cx)(d:Nat)(env:Env)(t:Expr)(body:List Stmt)(src:pu)(i:Nat)(l:au)(V:St)(QF:Fl->au->St->Prop):Prop:=
 ∀(A:Around) (s:Shared) (R':Result->Shared->Prop) (it:Addr) (V₀:St) (h₀:Heap),gD A d->bc c V s.heap->aW c env l V s.heap->
  i6 s.heap it src i->V it=none->c.base.get? it=none->¬mv env it->h₀.get? it=none->bM (mv env) V₀ h₀ V s.heap->
  (∀f h' tk l' V',bc c V' h'->bM (mv env) V₀ h₀ V' h'->aW c env l' V' h'->QF (Bk f) l' V'->R' (.ok f) {s with heap:=h',toks:=tk})->
  codeAny (model c.prog c.w) A (.forLoop t (.ref it) body [] env) R' s
theorem bM.off{X:Addr->Prop}{V V1:St}{h h1 h2:Heap}{it:Addr}(S:bM X V h V1 h1)(hk:∀b o,b≠it->h1.get? b=some o->h2.get? b=some o)(hn:h.get? it=none):bM X V h V1 h2:=by
 have ne:∀b o,h.get? b=some o->b≠it:=fun b o e q=>by rw[q,hn]at e;cases e
 exact⟨fun b o e q nx=>hk b o (ne b o e) (S.keep b o e q nx),S.dom,fun b o e=>let ⟨o',e'⟩:=S.live b o e;⟨o',hk b o' (ne b o e) e'⟩,S.ro⟩
theorem bc.off{c:Cx}{V:St}{h h2:Heap}{it:Addr}(H:bc c V h)(hk:∀b o,b≠it->h.get? b=some o->h2.get? b=some o)(hn:V it=none)(hb:c.base.get? it=none):bc c V h2:=
 ⟨fun a o e=>(H.sim a o e).at fun ob q=>hk a ob (by rintro rfl;rw[hn]at e;cases e) q,fun b o e=>hk b o (by rintro rfl;rw[hb]at e;cases e) (H.base b o e),H.apart⟩
theorem aW.off{c:Cx}{env:Env}{l:au}{V:St}{h h2:Heap}{it:Addr}(F:aW c env l V h)(hk:∀b o,b≠it->h.get? b=some o->h2.get? b=some o)(hn:¬mv env it):aW c env l V h2:=by
 refine be F.ns fun m hm hl=>?_
 refine⟨F.kind,F.glob,F.blt,⟨m,hm.at' fun o e=>hk _ o (fun q=>hn (.inl q.symm)) e,hl⟩,fun x hx=>?_,F.capart,F.outL,fun n a hm'=>?_⟩
 ·obtain⟨a,v,e,⟨o,ho,hd⟩,q⟩:=F.cell x hx
  exact⟨a,v,e,⟨o,hk a o (fun q=>hn (.inr ⟨x,q▸mem_of_lookup e⟩)) ho,hd⟩,q⟩
 ·obtain⟨p1,p2,p3,o,ho⟩:=F.outC n a hm'
  exact⟨p1,p2,p3,o,hk a o (fun q=>hn (.inr ⟨n,q▸hm'⟩)) ho⟩
section
variable{c:Cx}{d:Nat}{env:Env}{l:au}{V:St}{pos p:Pos}{Q:Value->St->Prop}{QB:Bool->St->Prop}{QF:Fl->au->St->Prop}{QL:au->St->Prop}
theorem dn{t:Expr}{body:List Stmt}{src:pu}{i:Nat}{r:Option Value}(e:nx V src i=some r)
  (h:match r with
   |none=>QF .next l V
   |some v=>nY c d env l t v V fun l1 V1=>SS c d env l1 body V1 fun f l2 V2=>match f with
    | .next=>mx c d env t body src (i+1) l2 V2 QF
    | .ret w=>QF (.ret w) l2 V2
    | .other=>False):mx c d env t body src i l V QF:=fun A s R' it V₀ h₀ R H F X hn hb ho hn₀ S₀ k=>by
 refine codeAny_of_tree ?_
 show wpAny _ A ((forTurn t (.ref it) body [] env).onRaise (fun x=>do noteFrame x env;theTreesLotGoes x)) _ _ s
 refine wpAny_noted ?_
 unfold forTurn
 refine wpAny_bind (wpAny_standAt (wpAny_bind (wpAny_onRaise (rP R.1 H X e fun rv h1 t1 hr hX hk=>?_))))
 have H1:=H.off hk hn hb
 have F1:=F.off hk ho
 have S1:=S₀.off hk hn₀
 induction rv with
 |none=>
  subst hr
  exact wpAny_pure ⟨rfl,codeAny_block (wpAny_execs_nil (k .next h1 t1 l V H1 S1 F1 h))⟩
 |some v=>
  subst hr
  have X1:=hX rfl
  refine be X1.cls fun oc hoc hcl=>?_
  refine wpAny_bind (i7 hoc hcl ?_)
  refine dP X1.live fun o1 ho1=>?_
  have nit:∀{V':St} {h':Heap} {l'},bM (mv env) V h1 V' h'->aW c env l' V' h'->(∀o,h1.get? it=some o->h'.get? it=some o)/\V' it=none:=fun S' F'=>
   ⟨fun o e=>S'.keep it o e (.inl hn) ho,S'.dom it o1 ho1 hn⟩
  refine wpAny_bind (h v rfl A _ _ _ R H1 F1 fun _ h2 t2 l2 V2 H2 S2 F2 q2=>wpAny_bind (q2 A _ _ _ R H2 F2 fun f h3 t3 l3 V3 H3 S3 F3 q3=>?_))
  have S13:=S1.trans (S2.trans S3)
  have hit:=nit (S2.trans S3) F3
  induction f with
  |next=>exact wpAny_pure ⟨rfl,q3 A _ R' it V₀ h₀ R H3 F3 (X1.at hit.1) hit.2 hb ho hn₀ S13 fun f h4 t4 l4 V4 H4 S4 F4 q4=>k f h4 t4 l4 V4 H4 S4 F4 q4⟩
  |cont=>exact q3.elim
  |brk=>exact q3.elim
  |ret v=>exact wpAny_pure (k (.ret v) h3 t3 l3 V3 H3 S13 F3 q3)
theorem Bw{t it:Expr}{body:List Stmt}(h:E c d env l it V fun v V1=>∃src,dG V1 v=some src/\mx c d env t body src 0 l V1 QF)(hs:∀x,foldedSetIterable it env x=pure x):
  S c d env l (.For t it body [] p) V QF:=fun A s Q' E' R H F k=>by
 refine wpAny_For (h A s _ E' R H F fun v h1 t1 V1 H1 S1 q=>?_) hs
 refine be q fun src hsrc q=>?_
 refine pG (s:={s with heap:=h1,toks:=t1}) H1 hsrc fun o X=>?_
 refine ff (H1.push o) fun H2 S2=>?_
 have F1:=F.after S1
 have hno:¬mv env h1.objs.size:=by
  rintro(q| ⟨n,q⟩)
  ·obtain⟨m,⟨oL,_,_,hL,_⟩,_⟩:=F1.ns
   rw[←q,a9]at hL;cases hL
  ·obtain⟨_,_,_,oc,hc⟩:=F1.outC n _ q
   rw[a9]at hc;cases hc
 have hbase:c.base.get? h1.objs.size=none:=by
  induction hq:c.base.get? h1.objs.size with
  |none=>rfl
  |some o=>have:=H1.base _ _ hq;rw[a9]at this;cases this
 exact q A _ _ h1.objs.size V1 h1 R H2 (F1.after S2) X H1.freshSize hbase hno (a9 _) (S2.weaken fun _ f=>f.elim) fun f h3 t3 l3 V3 H3 S3 F3 q3=>
  k f h3 t3 l3 V3 H3 ((S1.weaken fun _ f=>f.elim).trans S3) F3 q3
end
def gU(c:Cx)(d:Nat)(env:Env)(l:au){α:Type}(t:Sem α)(V:St)(Q:α->au->St->Prop):Prop:=
 ∀(A:Around) (s:Shared) (Q':α->Shared->Prop) (E':Value->Shared->Prop),gD A d->bc c V s.heap->aW c env l V s.heap->
  (∀v h' tk l' V',bc c V' h'->bM (fun b=>b=env.locals) V s.heap V' h'->aW c env l' V' h'->Q v l' V'->Q' v {s with heap:=h',toks:=tk})->
  wpAny (model c.prog c.w) A t Q' E' s
def kL(c:Cx)(d:Nat)(env:Env)(l:au)(t:Expr)(v:Value)(V:St)(Q:au->St->Prop):Prop:=
 ∀rv,er rv=v->gU c d env l (assign t env rv) V fun _ l' V'=>Q l' V'
def mW(c:Cx)(d:Nat)(env:Env)(l:au):List Expr->List Value->St->(au->St->Prop)->Prop
 |t::ts,v::vs,V,Q=>kL c d env l t v V fun l1 V1=>mW c d env l1 ts vs V1 Q
 |_,_,V,Q=>Q l V
section
variable{c:Cx}{d:Nat}{env:Env}{l:au}{V:St}{pos p:Pos}{Q:Value->St->Prop}{QB:Bool->St->Prop}{QF:Fl->au->St->Prop}{QL:au->St->Prop}
theorem gU.pure{α:Type}{a:α}{Q:α->au->St->Prop}(h:Q a l V):gU c d env l (Pure.pure a) V Q:=
 fun A s Q' E' R H F k=>wpAny_pure (k a s.heap s.toks l V H (.refl ..) F h)
theorem gU.bind{α β:Type}{t:Sem α}{f:α->Sem β}{Q:β->au->St->Prop}(h:gU c d env l t V fun a l1 V1=>gU c d env l1 (f a) V1 Q):gU c d env l (t>>= f) V Q:=
 fun A s Q' E' R H F k=>wpAny_bind (h A s _ E' R H F fun a h1 tk1 l1 V1 H1 S1 F1 q=>q A _ Q' E' R H1 F1 fun v h2 tk2 l2 V2 H2 S2 F2 q2=>k v h2 tk2 l2 V2 H2 (S1.trans S2) F2 q2)
theorem gU.mono{α:Type}{t:Sem α}{Q Q1:α->au->St->Prop}(h:gU c d env l t V Q)(hq:∀a l' V',Q a l' V'->Q1 a l' V'):gU c d env l t V Q1:=
 fun A s Q' E' R H F k=>h A s Q' E' R H F fun v h' tk l' V' H' S F' q=>k v h' tk l' V' H' S F' (hq _ _ _ q)
theorem gU.holding{α:Type}{vs:List Value}{t:Sem α}{Q:α->au->St->Prop}(h:gU c d env l t V Q):gU c d env l (PySem.holding vs t) V Q:=
 fun A s Q' E' R H F k=>wpAny_holding (h A s Q' E' R H F k)
theorem sL{x:Str}{v:Value}(hk:env.kindOf x=some .local)(h:QL (eW l x v) V):kL c d env l (.Name x p) v V QL:=fun rv e A s Q' E' R H F k=>by
 refine wpAny_assign_Name ?_
 refine be F.ns fun m hm hl=>?_
 refine v7 (id hm) fun oL es ep hoL rL=>?_
 refine wpAny_storeName_local hk hm (fun h' hn' hs'=>?_) (by rw[F.kind];rfl)
 have S:bM (fun b=>b=env.locals) V s.heap V h':=by
  refine⟨fun b o e _ nx=>hs'.extBut b o nx e,fun b o e q=>q,fun b o e=>?_,fun b r q=>q⟩
  by_cases hb:b=env.locals
  ·subst hb;obtain⟨o',_,_,q,_⟩:=hn';exact⟨o',q⟩
  ·exact⟨o,hs'.extBut b o hb e⟩
 have H':bc c V h':=⟨fun a o q=>(H.sim a o q).at fun ob e=>hs'.extBut a ob (by rintro rfl;rw[F.outL.1]at q;cases q) e,
  fun b o e=>hs'.extBut b o (by rintro rfl;rw[F.outL.2]at e;cases e) (H.base b o e),H.apart⟩
 refine k () h' _ _ V H' S ⟨F.kind,F.glob,F.blt,⟨_,hn',fun y hy=>?_⟩,fun y hy=>?_,F.capart,F.outL,fun n a hm'=>?_⟩ (e▸h)
 ·rw[cM]
  by_cases e':y=x
  ·simp[e']
  ·simp only[if_neg e'];exact hl y hy
 ·refine dl (F.cell y hy) fun a v' e' hc q=>?_
  have hne:¬y=x:=by rintro rfl;rw[hk]at hy;rcases hy with hy|hy<;>cases hy
  refine⟨a,v',e',hc.sameBut hs' (F.outC _ _ (mem_of_lookup e')).2.2.1,?_⟩
  rw[cM,if_neg hne];exact q
 ·obtain⟨q1,q2,q3,o,ho⟩:=F.outC n a hm'
  exact⟨q1,q2,q3,o,hs'.extBut a o q3 ho⟩
theorem mX:∀{ts:List Expr} {rvs:List Value} {l:au} {V:St},ts.all aY=true->mW c d env l ts (rvs.map er) V QL->
  gU c d env l (assignInOrder ((assignEach ts env).map (·.2)) rvs) V fun _ l' V'=>QL l' V'
 | [],rvs,l,V,_,h=>by cases rvs<;>exact gU.pure (a:=()) h
 |t::ts,[],l,V,hs,h=>by
  rw[List.all_cons,Bool.and_eq_true]at hs
  rw[bG hs.1]
  exact gU.pure (a:=()) h
 |t::ts,v::vs,l,V,hs,h=>by
  rw[List.all_cons,Bool.and_eq_true]at hs
  rw[bG hs.1]
  exact gU.bind (gU.holding ((h v rfl).mono fun _ l1 V1 q=>mX hs.2 q))
theorem dp{ts:List Expr}{k:Nat}{a:Addr}{vs:List Value}(hr:rd V a=some (.tup vs))(hs:ts.all aY=true)(hl:ts.length=vs.length)(h:mW c d env l ts vs V QL):
  kL c d env l (.Tuple ts k p) (.ref a) V QL:=fun rv e A s Q' E' R H F k=>by
 obtain rfl:rv= .ref a:=by cases rv<;>simp only[er,reduceCtorEq,Value.ref.injEq]at e;rw[e]
 refine be (H.rd hr) fun xs ht hx=>?_
 refine wpAny_assign_Tuple R.1 ht (by rw[dR hs,hl,←hx];simp) (eY hs) fun h' hk=>?_
 refine ff (H.extra (h':=h') fun b ob q=>hk b ob (Nat.ne_of_lt (Heap.lt_size q)) q) fun H1 S1=>?_
 exact mX (QL:=QL) (V:=V) hs (by rw[hx];exact h) A {s with heap:=h'} _ E' R H1 (F.after S1) fun v h2 t2 l2 V2 H2 S2 F2 q2=>k v h2 t2 l2 V2 H2 ((S1.weaken fun _ f=>f.elim).trans S2) F2 q2
end
inductive CK where
 |lst (e:Expr)
 |dct (k v:Expr)
noncomputable def CK.expr:CK->List Comprehension->Scope->Pos->Expr
 | .lst e,g,s,p=> .ListComp e g s p
 | .dct k v,g,s,p=> .DictComp k v g s p
noncomputable def CK.emit:CK->Env->Addr->Sem Unit
 | .lst e,env,D=>do let _←call (.builtin "list.append") [.ref D,←eval e env]
 | .dct k v,env,D=>do
   let kv←eval k env
   let vv←holding [kv] (eval v env)
   standAt {k.pos with endLine:=v.pos.endLine,endCol:=v.pos.endCol}
   holding [kv,vv] (dictSet D kv vv)
inductive fN where
 |l (vs:List Value)
 |d (kvs:List (Str×Value))
def fB(c:Cx)(h:Heap)(D:Addr):fN->Prop
 | .l vs=>∃xs:Array Value,h.PlainList D xs/\xs.toList.map er=vs
 | .d kvs=>∃l:List (Str×Value),h.DictOf (PySem.strKind c.prog c.w) D l/\l.map (fun p=>(p.1,er p.2))=kvs
theorem fB.at{c:Cx}{h h':Heap}{D:Addr}{a:fN}(x:fB c h D a)(e:∀o,h.get? D=some o->h'.get? D=some o):fB c h' D a:=by
 cases a with
 |l vs=>obtain⟨xs,⟨n,ho⟩,q⟩:=x;exact⟨xs,⟨n,e _ ho⟩,q⟩
 |d kvs=>obtain⟨l,⟨o,es,ep,ho,r⟩,q⟩:=x;exact⟨l,⟨o,es,ep,e _ ho,r⟩,q⟩
theorem fB.live{c:Cx}{h:Heap}{D:Addr}{a:fN}(x:fB c h D a):∃o,h.get? D=some o:=by
 cases a with
 |l vs=>obtain⟨xs,⟨n,ho⟩,q⟩:=x;exact⟨_,ho⟩
 |d kvs=>obtain⟨l,⟨o,es,ep,ho,r⟩,q⟩:=x;exact⟨o,ho⟩
structure we(c:Cx)(env:Env)(V:St)(h₀:Heap)(a:Addr):Prop where
 un:V a=none
 base:c.base.get? a=none
 own:¬mv env a
 old:h₀.get? a=none
def my(c:Cx)(d:Nat)(env:Env)(l:au):CK->fN->St->(fN->St->Prop)->Prop
 | .lst e,.l vs,V,Q=>E c d env l e V fun y V1=>vs.length<=sizeLine/\Q (.l (vs++ [y])) V1
 | .dct k v,.d kvs,V,Q=>E c d env l k V fun kx V1=>E c d env l v V1 fun vx V2=>∃x,kx= .str x 0/\kvs.length<=sizeLine/\Q (.d (stored kvs x vx)) V2
 |_,_,_,_=>False
def i8(c:Cx)(d:Nat)(env:Env)(l:au):List Expr->St->(Bool->St->Prop)->Prop
 | [],V,Q=>Q true V
 | [t],V,Q=>T c d env l t V Q
 |_,_,_=>False
def eL(c:Cx)(d:Nat)(env:Env)(ck:CK)(t iter:Expr)(ifs:List Expr)(scope:Scope)(pos:Pos)(src:pu)(i:Nat)(acc:fN)(l:au)(V:St)(Q:fN->St->Prop):Prop:=
 ∀(A:Around) (s:Shared) (R':Result->Shared->Prop) (it D:Addr) (V₀:St) (h₀:Heap),gD A d->bc c V s.heap->aW c env l V s.heap->
  i6 s.heap it src i->fB c s.heap D acc->we c env V h₀ it->we c env V h₀ D->D≠it->bM (fun b=>b=env.locals) V₀ h₀ V s.heap->
  (∀h' tk l' V' acc',bc c V' h'->bM (fun b=>b=env.locals) V₀ h₀ V' h'->aW c env l' V' h'->fB c h' D acc'->V' D=none->Q acc' V'->R' (.ok .next) {s with heap:=h',toks:=tk})->
  codeAny (model c.prog c.w) A (.compLoop (ck.expr [⟨t,iter,ifs,0⟩] scope pos) 0 (.ref it) (.ref D) env) R' s
section
variable{c:Cx}{d:Nat}{env:Env}{l:au}{V:St}{pos p:Pos}
theorem jz(l:List (Str×Value))(x:Str)(v:Value):(stored l x v).map (fun p=>(p.1,er p.2))=stored (l.map fun p=>(p.1,er p.2)) x (er v):=by
 unfold stored
 have:((l.map fun p=>(p.1,er p.2)).any fun q=>decide (q.1=x))=l.any fun q=>decide (q.1=x):=by
  rw[List.any_map];rfl
 rw[this]
 split
 ·rw[List.map_map,List.map_map]
  refine List.map_congr_left fun p _=>?_
  dsimp only[Function.comp]
  split<;>rfl
 ·rw[List.map_append];rfl
theorem tV{ck:CK}{acc:fN}{Q:fN->St->Prop}{A:Around}{s:Shared}{Q':Unit->Shared->Prop}{E':Value->Shared->Prop}{D:Addr}(h:my c d env l ck acc V Q)(R:gD A d)(H:bc c V s.heap)(F:aW c env l V s.heap)
  (hD:fB c s.heap D acc) (hn:V D=none) (hb:c.base.get? D=none)
  (k:∀h1 h' tk V' acc',bc c V' h1->bM (fun _=>False) V s.heap V' h1->(∀b o,b≠D->h1.get? b=some o->h'.get? b=some o)->fB c h' D acc'->V' D=none->Q acc' V'->Q' () {s with heap:=h',toks:=tk}):
  wpAny (model c.prog c.w) A (ck.emit env D) Q' E' s:=by
 refine dP hD.live fun oD hoD=>?_
 cases ck with
 |lst e=>
  cases acc with
  |d kvs=>exact h.elim
  |l vs=>
   show wpAny _ A (eval e env>>= fun x=>call (.builtin "list.append") [.ref D,x]>>= fun _=>pure ()) _ _ _
   refine wpAny_bind (h A s _ E' R H F fun y h1 t1 V1 H1 S1 q=>wpAny_bind ?_)
   refine be (hD.at fun o e=>S1.keep D o e (.inl hn) (fun f=>f)) fun xs hl hx=>?_
   refine wpAny_list_append_plain hl (fun h2 fZ hs2=>wpAny_pure ?_) (by have:=q.1;rw[←hx]at this;simpa using this)
   exact k h1 h2 t1 V1 (.l (vs++ [er y])) H1 S1 (fun b o hb e=>hs2.extBut b o hb e) ⟨_,fZ,by simp[hx]⟩ (S1.dom D oD hoD hn) q.2
 |dct ke ve=>
  cases acc with
  |l vs=>exact h.elim
  |d kvs=>
   show wpAny _ A (do
    let kv←eval ke env
    let vv←holding [kv] (eval ve env)
    standAt {ke.pos with endLine:=ve.pos.endLine,endCol:=ve.pos.endCol}
    holding [kv,vv] (dictSet D kv vv)) _ _ _
   refine wpAny_bind (h A s _ E' R H F fun kx h1 t1 V1 H1 S1 q=>wpAny_bind (wpAny_holding (q A _ _ E' R H1 (F.after S1) fun vx h2 t2 V2 H2 S2 q2=>wpAny_bind (wpAny_standAt (wpAny_holding ?_)))))
   obtain⟨x,hkx,hsz,q2⟩:=q2
   have S12:=S1.trans S2
   obtain⟨l,hl,hx⟩:=hD.at fun o e=>S12.keep D o e (.inl hn) (fun f=>f)
   obtain⟨u,rfl⟩:∃u,kx= .str x u:=by cases kx<;>simp only[er,reduceCtorEq,Value.str.injEq]at hkx;exact⟨_,by rw[hkx.1]⟩
   refine wpAny_dictSet_pairs (k:=x) (by simp[PySem.strKind,Value.isStrOf]) hl (fun h3 qH hs3=>?_) (by rw[←hx]at hsz;simpa using hsz)
   exact k h2 h3 _ V2 (.d (stored kvs x (er vx))) H2 S12 (fun b o hb e=>hs3.extBut b o hb e) ⟨_,qH,by rw[jz,hx]⟩ (S12.dom D oD hoD hn) q2
theorem sM{ifs:List Expr}{QB:Bool->St->Prop}{A:Around}{s:Shared}{Q':Bool->Shared->Prop}{E':Value->Shared->Prop}(h:i8 c d env l ifs V QB)(R:gD A d)(H:bc c V s.heap)(F:aW c env l V s.heap)
  (k:∀b h' tk V',bc c V' h'->bM (fun _=>False) V s.heap V' h'->QB b V'->Q' b {s with heap:=h',toks:=tk}):
  wpAny (model c.prog c.w) A (forIn ifs true fun c r=>if r=true then do let ok←isTrue c env (eval c env);pure (ForInStep.yield ok)else pure (ForInStep.yield r)) Q' E' s:=by
 cases ifs with
 |nil=>exact wpAny_tests_nil (k true s.heap s.toks V H (.refl ..) h)
 |cons t r=>
  cases r with
  |nil=>exact wpAny_tests_one (h A s _ E' R H F k)
  |cons _ _=>exact h.elim
theorem pH(ck:CK)(t iter:Expr)(ifs:List Expr)(scope:Scope)(pos:Pos)(it:Value)(D:Addr)(env:Env):
  compTurn (ck.expr [⟨t,iter,ifs,0⟩] scope pos) 0 it (.ref D) env=(do
   standAt iter.pos
   match←pyNext it with
   |none=>pure (.done .next)
   |some v=>
    letOwnedTupleGo t it v
    assign t env v
    let mut ok:=true
    for c in ifs do
     if ok then ok←isTrue c env (eval c env)
    if ok then ck.emit env D
    again (.compLoop (ck.expr [⟨t,iter,ifs,0⟩] scope pos) 0 it (.ref D) env)):=by cases ck<;>rfl
theorem pI(ck:CK)(g:List Comprehension)(scope:Scope)(pos:Pos)(it acc:Value)(env:Env)(M:Model)(hM:M.den=denote table):
  M.den (.compLoop (ck.expr g scope pos) 0 it acc env)=(compTurn (ck.expr g scope pos) 0 it acc env).onRaise (fun x=>do noteFrame x env;theTreesLotGoes x):=by
 rw[hM];cases ck<;>rfl
theorem mY{ck:CK}{t iter:Expr}{ifs:List Expr}{scope:Scope}{src:pu}{i:Nat}{acc:fN}{Q:fN->St->Prop}{r:Option Value}(e:nx V src i=some r)
  (h:match r with
   |none=>Q acc V
   |some v=>kL c d env l t v V fun l1 V1=>i8 c d env l1 ifs V1 fun b V2=>
    if b=true then my c d env l1 ck acc V2 fun acc' V3=>eL c d env ck t iter ifs scope pos src (i+1) acc' l1 V3 Q
    else eL c d env ck t iter ifs scope pos src (i+1) acc l1 V2 Q):eL c d env ck t iter ifs scope pos src i acc l V Q:=fun A s R' it D V₀ h₀ R H F X hD oi oD hne S₀ k=>by
 refine codeAny_of_tree ?_
 have hu:A.under (.compLoop (ck.expr [⟨t,iter,ifs,0⟩] scope pos) 0 (.ref it) (.ref D) env)=A:=by cases ck<;>rfl
 rw[hu,pI _ _ _ _ _ _ _ _ rfl]
 refine wpAny_noted ?_
 rw[pH]
 refine wpAny_bind (wpAny_standAt (wpAny_bind (rP R.1 H X e fun rv h1 t1 hr hX hk=>?_)))
 have H1:=H.off hk oi.un oi.base
 have F1:=F.off hk oi.own
 have S1:=S₀.off hk oi.old
 have hD1:fB c h1 D acc:=hD.at fun o e=>hk D o hne e
 cases rv with
 |none=>
  subst hr
  exact wpAny_pure (k h1 t1 l V acc H1 S1 F1 hD1 oD.un h)
 |some v=>
  subst hr
  have X1:=hX rfl
  refine be X1.cls fun oc hoc hcl=>?_
  refine dP X1.live fun o1 ho1=>?_
  refine dP hD1.live fun oD1 hoD1=>?_
  have notL:∀a,we c env V h₀ a->¬a=env.locals:=fun a o q=>o.own (.inl q)
  refine wpAny_bind (i7 hoc hcl ?_)
  refine wpAny_bind (h v rfl A _ _ _ R H1 F1 fun _ h2 t2 l2 V2 H2 S2 F2 q2=>wpAny_bind (sM q2 R H2 F2 fun b h3 t3 V3 H3 S3 q3=>?_))
  have F3:=F2.after S3
  have S23:=S2.trans (S3.weaken (Y:=fun b=>b=env.locals) fun _ f=>f.elim)
  have S13:=S1.trans S23
  have it3:∀o,h1.get? it=some o->h3.get? it=some o:=fun o e=>S23.keep it o e (.inl oi.un) (notL it oi)
  have D3:∀o,h1.get? D=some o->h3.get? D=some o:=fun o e=>S23.keep D o e (.inl oD.un) (notL D oD)
  have oi3:we c env V3 h₀ it:=⟨S23.dom it o1 ho1 oi.un,oi.base,oi.own,oi.old⟩
  have oD3:we c env V3 h₀ D:=⟨S23.dom D oD1 hoD1 oD.un,oD.base,oD.own,oD.old⟩
  cases b with
  |false=>
   simp only[Bool.false_eq_true,if_false]at q3 ⊢
   exact wpAny_pure ⟨by cases ck<;>rfl,q3 A _ R' it D V₀ h₀ R H3 F3 (X1.at it3) (hD1.at D3) oi3 oD3 hne S13 k⟩
  |true=>
   simp only[if_true]at q3 ⊢
   refine wpAny_bind (tV q3 R H3 F3 (hD1.at D3) oD3.un oD3.base fun h4 h5 t5 V5 acc5 H4 S4 hk5 hD5 un5 q5=>?_)
   have H5:=H4.off hk5 un5 oD3.base
   have F5:=(F3.after S4).off hk5 oD3.own
   have S5:=(S13.trans (S4.weaken (Y:=fun b=>b=env.locals) fun _ f=>f.elim)).off hk5 oD3.old
   have it5:∀o,h1.get? it=some o->h5.get? it=some o:=fun o e=>hk5 it o (Ne.symm hne) (S4.keep it o (it3 o e) (.inl oi3.un) fun f=>f)
   have oi5:we c env V5 h₀ it:=⟨S4.dom it o1 (it3 o1 ho1) oi3.un,oi.base,oi.own,oi.old⟩
   exact wpAny_pure ⟨by cases ck<;>rfl,q5 A _ R' it D V₀ h₀ R H5 F5 (X1.at it5) hD5 oi5 ⟨un5,oD.base,oD.own,oD.old⟩ hne S5 k⟩
end
theorem wg{c:Cx}{it:Addr}{src:pu}{i:Nat}{A:Around}{s:Shared}{Q':Value->Shared->Prop}{E':Value->Shared->Prop}
  (X:i6 s.heap it src i) (k:Q' (.ref it) s):wpAny (model c.prog c.w) A (pyIter (.ref it)) Q' E' s:=by
 cases src with
 |list a=>exact wpAny_pyIter_listiter X k
 |tup a=>exact wpAny_pyIter_tupleiter X k
 |keys a n ep=>exact wpAny_pyIter_keyiter X k
 |range n=>exact wpAny_pyIter_rangeiter X.2 k
 |rev a n=>exact wpAny_pyIter_revIter X.2 k
 |str x=>
  refine fM X fun T t hT X=>?_
  rcases hT with rfl|rfl
  ·exact wpAny_pyIter_striter_ascii X k
  ·exact wpAny_pyIter_striter_wide X k
noncomputable def clo(env:Env):List (Str×NameKind)->List (Str×Addr)->List (Str×Addr)
 | [],acc=>acc
 | (n,k)::r,acc=>if k== .free then clo env r ((n,(env.cells.lookup n).getD 0)::acc)else clo env r acc
theorem kM{scope:Scope}{env:Env}(h:∀n,(n,NameKind.free)∈scope.names->∃a,env.cells.lookup n=some a):closureFor scope env=pure (clo env scope.names []):=by
 have go:∀(names:List (Str×NameKind)) (acc:List (Str×Addr)),(∀n,(n,NameKind.free)∈names->∃a,env.cells.lookup n=some a)->
   (forIn names acc fun(x:Str×NameKind) cs=>if(x.2==NameKind.free)=true then(do let a←cellOf env x.1;pure (ForInStep.yield ((x.1,a)::cs)))else pure (ForInStep.yield cs):Sem (List (Str×Addr)))=pure (clo env names acc):=by
  intro names
  induction names with
  |nil=>intro acc _;rfl
  |cons x r ih=>
   intro acc hh
   obtain⟨n,k⟩:=x
   rw[List.forIn_cons]
   dsimp only
   have hr:=ih (acc:=acc) fun m hm=>hh m (List.mem_cons_of_mem _ hm)
   have hr':=ih (acc:=(n,(env.cells.lookup n).getD 0)::acc) fun m hm=>hh m (List.mem_cons_of_mem _ hm)
   by_cases hk:(k==NameKind.free)=true
   ·rw[if_pos hk]
    refine dP (hh n (by rw[eq_of_beq hk];exact List.mem_cons_self)) fun a ha=>?_
    have e1:cellOf env n=pure a:=by unfold cellOf;rw[ha]
    rw[e1]
    rw[ha]at hr'
    show(forIn r ((n,a)::acc) _:Sem _)=pure (clo env ((n,k)::r) acc)
    rw[clo,if_pos hk,ha]
    exact hr'
   ·rw[if_neg hk]
    show(forIn r acc _:Sem _)=pure (clo env ((n,k)::r) acc)
    rw[clo,if_neg hk]
    exact hr
 unfold closureFor
 exact congrArg (fun t:Sem (List (Str×Addr))=>t>>= fun s=>pure s) (go scope.names [] h)
theorem rQ{env:Env}:∀{names:List (Str×NameKind)} {acc:List (Str×Addr)},(∀n,(n,NameKind.free)∈names->∃a,env.cells.lookup n=some a)->∀{n a},(n,a)∈clo env names acc->(n,a)∈acc∨((n,NameKind.free)∈names/\env.cells.lookup n=some a):=by
 intro zz
 induction zz with
 |nil=>
  intro acc _ n a h
  exact .inl h
 |cons p0 r ih=>
  obtain⟨m,k⟩:=p0
  intro acc hh n a h
  unfold clo at h
  have hr:∀n,(n,NameKind.free)∈r->∃a,env.cells.lookup n=some a:=fun n hn=>hh n (List.mem_cons_of_mem _ hn)
  by_cases hk:(k==NameKind.free)=true
  ·rw[if_pos hk]at h
   have hk':=eq_of_beq hk
   subst hk'
   rcases ih hr h with h|h
   ·rcases List.mem_cons.mp h with h|h
    ·refine ff (Prod.mk.inj h) fun e1 e2=>?_
     subst e1
     refine dP (hh n List.mem_cons_self) fun b hb=>?_
     exact .inr ⟨List.mem_cons_self,by rw[e2,hb];rfl⟩
    ·exact .inl h
   ·exact .inr ⟨List.mem_cons_of_mem _ h.1,h.2⟩
  ·rw[if_neg hk]at h
   rcases ih hr h with h|h
   ·exact .inl h
   ·exact .inr ⟨List.mem_cons_of_mem _ h.1,h.2⟩
theorem wh{env:Env}:∀{names:List (Str×NameKind)} {acc:List (Str×Addr)} {n:Str} {a:Addr},(n,a)∈acc∨((n,NameKind.free)∈names/\env.cells.lookup n=some a)->(n,a)∈clo env names acc:=by
 intro zz
 induction zz with
 |nil=>
  intro acc n a h
  rcases h with h|h;exact h;exact nomatch h.1
 |cons p0 r ih=>
  obtain⟨m,k⟩:=p0
  intro acc n a h
  unfold clo
  by_cases hk:(k==NameKind.free)=true
  ·rw[if_pos hk]
   refine ih ?_
   rcases h with h| ⟨h,e⟩
   ·exact .inl (List.mem_cons_of_mem _ h)
   ·rcases List.mem_cons.mp h with h|h
    ·cases h;left;rw[e];exact List.mem_cons_self
    ·exact .inr ⟨h,e⟩
  ·rw[if_neg hk]
   refine ih ?_
   rcases h with h| ⟨h,e⟩
   ·exact .inl h
   ·rcases List.mem_cons.mp h with h|h
    ·cases h;exact absurd rfl hk
    ·exact .inr ⟨h,e⟩
theorem jA{env:Env}:∀{names:List (Str×NameKind)} {acc:List (Str×Addr)},((names.map (·.1))++(acc.map (·.1))).Nodup->((clo env names acc).map (·.1)).Nodup
 | [],acc,h=>by simpa [clo]using h
 | (m,k)::r,acc,h=>by
   unfold clo
   by_cases hk:(k==NameKind.free)=true
   ·rw[if_pos hk]
    refine jA ?_
    refine(List.Perm.nodup_iff ?_).mp h
    simp only[List.map_cons,List.cons_append]
    exact List.perm_middle.symm
   ·rw[if_neg hk]
    refine jA ?_
    simp only[List.map_cons,List.cons_append,List.nodup_cons]at h
    exact h.2
theorem iE:∀{l:List (Str×Addr)} {n:Str} {a:Addr},(l.map (·.1)).Nodup->(n,a)∈l->l.lookup n=some a
 | (m,b)::r,n,a,hn,h=>by
   rw[List.map_cons,List.nodup_cons]at hn
   rw[List.lookup_cons]
   rcases List.mem_cons.mp h with h1|h1
   ·cases h1;simp
   ·have hne:(n==m)=false:=by
     simp only[beq_eq_false_iff_ne,ne_eq]
     intro q
     exact hn.1 (q▸List.mem_map.mpr ⟨_,h1,rfl⟩)
    rw[hne]
    exact iE hn.2 h1
theorem fC{scope:Scope}{env:Env}(x:Str):(relabel scope env).names.lookup x=(scope.names.lookup x).map fun k=>if(k==NameKind.free&&env.scope.kind== .function&&env.kindOf x==some .cell)then .cell else k:=by
 unfold relabel
 dsimp only
 induction scope.names with
 |nil=>rfl
 |cons p r ih=>
  obtain⟨n,k⟩:=p
  rw[List.map_cons]
  dsimp only at ih ⊢
  by_cases hx:x=n
  ·subst hx
   split
   ·rename_i hq;simp only[List.lookup_cons,beq_self_eq_true,Option.map_some];rw[if_pos hq]
   ·rename_i hq;simp only[List.lookup_cons,beq_self_eq_true,Option.map_some];rw[if_neg hq]
  ·have hb:(x==n)=false:=by simpa using hx
   split
   ·simp only[List.lookup_cons,hb];exact ih
   ·simp only[List.lookup_cons,hb];exact ih
noncomputable def sN(ns:List (Str×NameKind))(l:au):au:=l.filter fun p=>ns.lookup p.1==some .free
theorem iM(ns:List (Str×NameKind))(l:au)(x:Str):(sN ns l).lookup x=if ns.lookup x=some .free then l.lookup x else none:=by
 unfold sN
 induction l with
 |nil=>simp
 |cons p r ih=>
  obtain⟨n,v⟩:=p
  rw[List.filter_cons]
  by_cases hx:x=n
  ·subst hx
   by_cases hf:ns.lookup x=some .free
   ·simp[hf]
   ·simp only[hf,if_false]
    have:(ns.lookup x==some NameKind.free)=false:=by simpa using hf
    simp only[this,Bool.false_eq_true,if_false,ih,hf]
  ·have hb:(x==n)=false:=by simpa using hx
   split
   ·simp only[List.lookup_cons,hb,ih]
   ·simp only[List.lookup_cons,hb,ih]
structure kO(env:Env)(scope:Scope):Prop where
 kind:scope.kind= .function
 cell:∀y∈scope.names,y.2≠ .cell
 nodup:(scope.names.map (·.1)).Nodup
 free:∀x,scope.names.lookup x=some .free->env.kindOf x=some .cell∨env.kindOf x=some .free
theorem fi{ns:List (Str×NameKind)}(h:(ns.map (·.1)).Nodup){y:Str×NameKind}(hy:y∈ns):ns.lookup y.1=some y.2:=by
 induction ns with
 |nil=>exact nomatch hy
 |cons p r ih=>
  rw[List.map_cons,List.nodup_cons]at h
  rw[List.lookup_cons]
  rcases List.mem_cons.mp hy with rfl|hy
  ·simp
  ·have hne:(y.1==p.1)=false:=by
    simp only[beq_eq_false_iff_ne,ne_eq]
    intro e
    exact h.1 (e▸List.mem_map.mpr ⟨_,hy,rfl⟩)
   rw[hne];exact ih h.2 hy
theorem gX{ns:List (Str×NameKind)}{x:Str}{k:NameKind}(h:ns.lookup x=some k):(x,k)∈ns:=mem_of_lookup h
theorem qM{c:Cx}{env:Env}{l:au}{V:St}{h h1:Heap}{scope:Scope}{C:Addr}(F:aW c env l V h)(K:kO env scope)(hk:∀b o,h.get? b=some o->h1.get? b=some o)
  (hC:h.get? C=none) (hσ:V C=none) (hb:c.base.get? C=none) (hns:h1.Ns C fun _=>none):aW c (compEnvC scope (clo env scope.names []) C env) (sN scope.names l) V h1:=by
 have hfr:∀n,(n,NameKind.free)∈scope.names->env.kindOf n=some .cell∨env.kindOf n=some .free:=fun n hn=>K.free n (fi K.nodup hn)
 have hlk:∀n,(n,NameKind.free)∈scope.names->∃a,env.cells.lookup n=some a:=fun n hn=>let ⟨a,_,e,_⟩:=F.cell n (hfr n hn);⟨a,e⟩
 have hmem:∀n a,(n,a)∈clo env scope.names []->(n,NameKind.free)∈scope.names/\env.cells.lookup n=some a:=fun n a hm=>(rQ hlk hm).resolve_left (fun f=>nomatch f)
 have hnd:((clo env scope.names []).map (·.1)).Nodup:=jA (by simpa using K.nodup)
 refine⟨K.kind,F.glob,F.blt,⟨_,hns,fun x hx=>?_⟩,fun x hx=>?_,?_,⟨hσ,hb⟩,fun n a hm=>?_⟩
 ·have hx':(relabel scope env).names.lookup x=some .local:=hx
  rw[fC]at hx'
  rw[iM]
  induction hl:scope.names.lookup x with
  |none=>simp
  |some k=>
   rw[hl]at hx'
   simp only[Option.map_some,Option.some.injEq]at hx'
   split at hx'
   ·cases hx'
   ·subst hx';simp
 ·have hx':(relabel scope env).names.lookup x=some .cell∨(relabel scope env).names.lookup x=some .free:=hx
  rw[fC]at hx'
  have hfree:scope.names.lookup x=some .free:=by
   induction hl:scope.names.lookup x with
   |none=>rw[hl]at hx';rcases hx' with h|h<;>cases h
   |some k=>
    have hnc:=K.cell _ (gX hl)
    rw[hl]at hx'
    simp only[Option.map_some,Option.some.injEq]at hx'
    induction k with
    |free=>rfl
    |cell=>exact absurd rfl hnc
    | «local» =>simp at hx'
    |globalExplicit=>simp at hx'
    |globalImplicit=>simp at hx'
  obtain⟨a,v,e,⟨o,ho,hd⟩,q⟩:=F.cell x (K.free x hfree)
  refine⟨a,v,iE hnd (wh (.inr ⟨gX hfree,e⟩)),⟨o,hk a o ho,hd⟩,?_⟩
  rw[iM,if_pos hfree];exact q
 ·have:(clo env scope.names []).Pairwise fun x y=>x.1≠y.1:=by
   rw[List.Nodup,List.pairwise_map]at hnd;exact hnd
  refine List.Pairwise.imp_of_mem ?_ this
  intro x y hx hy hne e
  refine ff (hmem x.1 x.2 hx) fun _ ex=>?_
  refine ff (hmem y.1 y.2 hy) fun _ ey=>?_
  exact hne (name_of_addr F.capart (mem_of_lookup ex) (e▸mem_of_lookup ey))
 ·refine ff (hmem n a hm) fun _ e=>?_
  obtain⟨p1,p2,p3,o,ho⟩:=F.outC n a (mem_of_lookup e)
  refine⟨p1,p2,?_,o,hk a o ho⟩
  show a≠C
  rintro rfl;rw[hC]at ho;cases ho
theorem bc.enlist{c:Cx}{V:St}{h:Heap}{a:Addr}{o:cq}(H:bc c V h)(hb:c.base.get? a=none)(ho:tM c h a o):bc c (V.set a o) h:=by
 refine⟨fun b ob q=>?_,H.base,fun b ob e=>?_⟩
 ·by_cases hba:b=a
  ·subst hba;simp[St.set]at q;subst q;exact ho
  ·simp[St.set,hba]at q;exact H.sim b ob q
 ·have:b≠a:=by rintro rfl;rw[hb]at e;cases e
  have h1:=H.apart b ob e
  simpa [St.set,this]using h1
theorem bM.enlist{X:Addr->Prop}{V V':St}{h h':Heap}{a:Addr}{o:cq}(S:bM X V h V' h')(hn:h.get? a=none)(hu:V' a=none):bM X V h (V'.set a o) h':=by
 refine⟨S.keep,fun b ob e q=>?_,S.live,fun b r q=>?_⟩
 ·have:b≠a:=by rintro rfl;rw[hn]at e;cases e
  simp only[St.set,this,if_false];exact S.dom b ob e q
 ·have h1:=S.ro b r q
  have:b≠a:=by rintro rfl;rw[hu]at h1;cases h1
  simp only[St.set,this,if_false];exact h1
noncomputable def CK.new:CK->Sem Value
 | .lst _=>newList []
 | .dct .. =>newDict
noncomputable def CK.acc0:CK->fN
 | .lst _=> .l []
 | .dct .. => .d []
theorem yO{c:Cx}{ck:CK}{V:St}{A:Around}{s:Shared}{Q':Value->Shared->Prop}{E':Value->Shared->Prop}(k:∀o,fB c (s.heap.push o) s.heap.objs.size ck.acc0->Q' (.ref s.heap.objs.size) {s with heap:=s.heap.push o}):
  wpAny (model c.prog c.w) A ck.new Q' E' s:=by
 induction ck with
 |lst e=>exact wpAny_newObj_type (k _ ⟨#[],⟨0,Heap.get?_push_size _ rfl⟩,rfl⟩) (by show(0:Nat)<=sizeLine;exact Nat.zero_le _)
 |dct kx vx=>exact wpAny_newObj_type (k _ ⟨[],iK.dictOf,rfl⟩) (by show(0:Nat)<=_;exact Nat.zero_le _)
theorem wi{ck:CK}{t iter:Expr}{ifs:List Expr}{scope:Scope}{p:Pos}{env:Env}:
  eval (ck.expr [⟨t,iter,ifs,0⟩] scope p) env=comprehension (ck.expr [⟨t,iter,ifs,0⟩] scope p) scope env (firstIterPos [⟨t,iter,ifs,0⟩] p) ck.new false (eval iter env):=by induction ck<;>rfl
theorem qN{ck:CK}{g:List Comprehension}{scope:Scope}{p:Pos}:clausesOf (ck.expr g scope p)=g:=by induction ck<;>rfl
theorem tW{prog:Program}{w:World}{A:Around}{R:Result->Shared->Prop}{s:Shared}{ck:CK}{t iter:Expr}{ifs:List Expr}{scope:Scope}{pos:Pos}{it acc:Value}{env:Env}
  (h0:codeAny (model prog w) A (.compLoop (ck.expr [⟨t,iter,ifs,0⟩] scope pos) 0 it acc env) R s)
  (h:wpAny (model prog w) A (pyIter it) (fun it' s'=>codeAny (model prog w) A (.compLoop (ck.expr [⟨t,iter,ifs,0⟩] scope pos) 0 it' acc env) R s') (notedBy (model prog w) A env fun x s'=>R (.error x) s') s):
  codeAny (model prog w) A (.compStart (ck.expr [⟨t,iter,ifs,0⟩] scope pos) 0 it acc env) R s:=by
 induction ck with
 |lst e=>exact codeAny_compStart_list h0 h
 |dct kx vx=>exact codeAny_compStart_dict h0 h
def gG(acc:fN)(a:Addr)(V:St)(Q:Value->St->Prop):Prop:=match acc with
 | .l vs=>Q (.ref a) (V.set a (.list vs))
 | .d kvs=>∀ep,Q (.ref a) (V.set a (.dict kvs ep))
section
variable{c:Cx}{d:Nat}{env:Env}{l:au}{V:St}{p:Pos}
theorem pJ{ck:CK}{t iter:Expr}{ifs:List Expr}{scope:Scope}{use:Option (Value->Sem Unit)}{A:Around}{s:Shared}{Q':Value->Shared->Prop}{E':Value->Shared->Prop}{P:fN->St->Prop}
  (K:kO env scope) (hs:∀x,foldedSetIterable iter env x=pure x) (R:gD A d) (H:bc c V s.heap) (F:aW c env l V s.heap)
  (h:E c d env l iter V fun v V1=>∃src,dG V1 v=some src/\∀cenv:Env,(∀x,cenv.kindOf x=(relabel scope env).names.lookup x)->eL c d cenv ck t iter ifs scope p src 0 ck.acc0 (sN scope.names l) V1 P)
  (k:∀h' tk V' acc C D,bc c V' h'->bM (fun _=>False) V s.heap V' h'->fB c h' D acc->V' D=none->c.base.get? D=none->s.heap.get? D=none->D≠C->V' C=none->c.base.get? C=none->s.heap.get? C=none->P acc V'->(D==sysModules)=false->
   (∃m,h'.Ns C m)->compPost (model c.prog c.w) A E' use Q' (.ref D) C (.ok .next) {s with heap:=h',toks:=tk}):
  wpAny (model c.prog c.w) A (comprehension (ck.expr [⟨t,iter,ifs,0⟩] scope p) scope env (firstIterPos [⟨t,iter,ifs,0⟩] p) ck.new false (eval iter env) use) Q' E' s:=by
 have hclos:closureFor scope env=pure (clo env scope.names []):=kM fun n hn=>by
  refine fM (F.cell n (K.free n (fi K.nodup hn))) fun a _ e _=>?_
  exact⟨a,e⟩
 refine wpAny_comprehension_free qN hs hclos K.kind (fun x hx hl=>by rw[fi K.nodup hx,hl]) ?_
 refine h A s _ E' R H F fun v h1 t1 V1 H1 S1 q=>?_
 refine be q fun src hsrc q=>?_
 refine pG (s:={s with heap:=h1,toks:=t1}) H1 hsrc fun oi X=>?_
 refine yO (c:=c) (V:=V1) (s:={s with heap:=h1.push oi,toks:=t1}) fun oD hD=>?_
 refine wpAny_newFunctionEnv K.cell (by intro y hy;simp at hy) (fun h3 hns3 hsb3=>?_) K.kind
 dsimp only at X hD hns3 hsb3 ⊢
 have hi:h1.get? h1.objs.size=none:=a9 _
 have z1:(h1.push oi).objs.size=h1.objs.size+1:=Heap.size_push ..
 have z2:((h1.push oi).push oD).objs.size=h1.objs.size+2:=by rw[Heap.size_push,z1]
 rw[z1]at hD
 rw[z2]at hns3 hsb3
 have none_of:∀a,h1.objs.size<=a->h1.get? a=none:=fun a ha=>by
  induction e:h1.get? a with
  |none=>rfl
  |some o'=>exact absurd (Heap.lt_size e) (Nat.not_lt.mpr ha)
 have n02:(h1.objs.size:Nat)≠h1.objs.size+2:=by lia
 have n12:(h1.objs.size+1:Nat)≠h1.objs.size+2:=by lia
 have base_of:∀a,h1.objs.size<=a->c.base.get? a=none:=fun a ha=>by
  induction e:c.base.get? a with
  |none=>rfl
  |some o'=>have:=H1.base a o' e;rw[none_of a ha]at this;cases this
 have up:∀b o,b≠h1.objs.size+2->((h1.push oi).push oD).get? b=some o->h3.get? b=some o:=fun b o hb e=>hsb3.extBut b o hb (Heap.get?_push_of_some _ e)
 have hk3:∀b o,h1.get? b=some o->h3.get? b=some o:=fun b o e=>up b o (Nat.ne_of_lt (Nat.lt_of_lt_of_le (Heap.lt_size e) (Nat.le_add_right _ _))) (Heap.get?_push_of_some _ (Heap.get?_push_of_some _ e))
 refine ff (H1.extra hk3) fun H3 S3=>?_
 have F1:=F.after S1
 have hsys:((h1.objs.size+1:Addr)==sysModules)=false:=by
  have:=modules_low (c.lim.keeps H1.base)
  simp only[beq_eq_false_iff_ne,ne_eq]
  exact Nat.ne_of_gt (Nat.lt_succ_of_lt this)
 have Fc:=qM F1 K hk3 (none_of (h1.objs.size+2) (by lia)) (H1.fresh (none_of _ (by lia))) (base_of _ (by lia)) hns3
 have off:∀a,h1.objs.size<=a->a≠h1.objs.size+2->we c (compEnvC scope (clo env scope.names []) (h1.objs.size+2) env) V1 h1 a:=fun a ha hne=>by
  refine⟨H1.fresh (none_of a ha),base_of a ha,?_,none_of a ha⟩
  rintro(e| ⟨n,e⟩)
  ·exact hne e
  ·rcases rQ (fun n hn=>by
    refine fM (F1.cell n (K.free n (fi K.nodup hn))) fun a _ e _=>?_
    exact⟨a,e⟩) e with e| ⟨_,e⟩
   ·exact nomatch e
   ·obtain⟨_,_,_,oc,hc⟩:=F1.outC n a (mem_of_lookup e)
    rw[none_of a ha]at hc;cases hc
 have hX3:i6 h3 h1.objs.size src 0:=X.at fun o e=>up _ o n02 (Heap.get?_push_of_some _ e)
 have hD3:fB c h3 (h1.objs.size+1) ck.acc0:=hD.at fun o e=>up _ o n12 e
 have Bf:=q (compEnvC scope (clo env scope.names []) (h1.objs.size+2) env) (fun _=>rfl) A {s with heap:=h3,toks:=t1+([]:List (Str×Value)).length}
  (compPost (model c.prog c.w) A E' use Q' (.ref (h1.objs.size+1)) (h1.objs.size+2)) h1.objs.size (h1.objs.size+1) V1 h1 R H3 Fc hX3 hD3 (off _ (Nat.le_refl _) n02) (off _ (by lia) n12) (Nat.ne_of_gt (Nat.lt_succ_self _))
  (S3.weaken fun _ f=>f.elim) fun h4 t4 l4 V4 acc4 H4 S4 F4 hD4 hu4 q4=>by
   have S4':bM (fun _=>False) V1 h1 V4 h4:=S4.shrink fun b o e hb=>by
    have hb':b=h1.objs.size+2:=hb
    subst hb'
    rw[none_of _ (by lia)]at e;cases e
   refine be F4.ns fun m4 hm4 _=>?_
   have old0:∀a,h1.objs.size<=a->s.heap.get? a=none:=fun a ha=>by
    induction e:s.heap.get? a with
    |none=>rfl
    |some o'=>obtain⟨o1,e1⟩:=S1.live a o' e;rw[none_of a ha]at e1;cases e1
   exact k h4 t4 V4 acc4 (h1.objs.size+2) (h1.objs.size+1) H4 (S1.trans S4') hD4 hu4 (base_of _ (by lia)) (old0 _ (by lia)) n12 F4.outL.1 (base_of _ (by lia)) (old0 _ (by lia)) q4 hsys ⟨m4,hm4⟩
 rw[z1]
 simp only[newEnv]
 rw[z2]
 exact tW Bf (wg (c:=c) hX3 Bf)
theorem tX{ck:CK}{t iter:Expr}{ifs:List Expr}{scope:Scope}{Q:Value->St->Prop}
  (K:kO env scope) (hs:∀x,foldedSetIterable iter env x=pure x)
  (h:E c d env l iter V fun v V1=>∃src,dG V1 v=some src/\∀cenv:Env,(∀x,cenv.kindOf x=(relabel scope env).names.lookup x)->
   eL c d cenv ck t iter ifs scope p src 0 ck.acc0 (sN scope.names l) V1 fun acc V2=>∀a,V2 a=none->gG acc a V2 Q):
  E c d env l (ck.expr [⟨t,iter,ifs,0⟩] scope p) V Q:=fun A s Q' E' R H F k=>by
 rw[wi]
 refine pJ (use:=none) K hs R H F h fun h1 t1 V1 acc C D H1 S1 hD hu hb h0 hDC huC hbC h0C q hsys hm=>?_
 refine dP hm fun m hm=>?_
 refine⟨m,hm,fun h2 hs2=>?_⟩
 have hk2:∀b o,b≠C->h1.get? b=some o->h2.get? b=some o:=fun b o hb e=>hs2.extBut b o hb e
 have H2:=H1.off hk2 huC hbC
 have S2:=S1.off hk2 h0C
 have hD2:fB c h2 D acc:=hD.at fun o e=>hk2 D o hDC e
 have q2:=q D hu
 induction acc with
 |l vs=>exact k (.ref D) h2 t1 (V1.set D (.list vs)) (H2.enlist hb hD2) (S2.enlist h0 hu) q2
 |d kvs=>
  obtain⟨l',⟨o,es,ep,ho,r⟩,hl'⟩:=hD2
  exact k (.ref D) h2 t1 (V1.set D (.dict kvs ep)) (H2.enlist hb ⟨hsys,l',⟨o,es,ho,r⟩,hl'⟩) (S2.enlist h0 hu) (q2 ep)
theorem yP{ck:CK}{t iter:Expr}{ifs:List Expr}{scope:Scope}{u:Value->Sem Unit}:
  evalThenUse (ck.expr [⟨t,iter,ifs,0⟩] scope p) env u=(comprehension (ck.expr [⟨t,iter,ifs,0⟩] scope p) scope env (firstIterPos [⟨t,iter,ifs,0⟩] p) ck.new false (eval iter env) (some u)>>= fun _=>pure ()):=by induction ck<;>rfl
theorem tY{ck:CK}{t iter:Expr}{ifs:List Expr}{scope:Scope}{y:Str}{py sp:Pos}{QF:Fl->au->St->Prop}
  (K:kO env scope) (hs:∀x,foldedSetIterable iter env x=pure x) (hsw:env.scope.kind= .function->swapsWith (ck.expr [⟨t,iter,ifs,0⟩] scope p) (some (.Name y py)) sp.line env=pure true)
  (hy:env.kindOf y=some .local∨env.kindOf y=some .cell)
  (h:E c d env l iter V fun v V1=>∃src,dG V1 v=some src/\∀cenv:Env,(∀x,cenv.kindOf x=(relabel scope env).names.lookup x)->
   eL c d cenv ck t iter ifs scope p src 0 ck.acc0 (sN scope.names l) V1 fun acc V2=>∀a,V2 a=none->gG acc a V2 fun v V3=>QF .next (eW l y v) V3):
  S c d env l (.Assign [.Name y py] (ck.expr [⟨t,iter,ifs,0⟩] scope p) sp) V QF:=fun A s Q' E' R H F k=>by
 rw[arm_exec_Assign]
 refine wpAny_bind (wpAny_standAt ?_)
 have hsw':swapsWithSole [.Name y py] (ck.expr [⟨t,iter,ifs,0⟩] scope p) sp.line env=pure true:=hsw F.kind
 rw[hsw']
 refine wpAny_bind (wpAny_pure ?_)
 rw[if_pos rfl]
 refine wpAny_bind ?_
 rw[yP]
 have e1:∀v,assignAll v ((assignEach [.Name y py] env).map (·.2))=assign (.Name y py) env v:=fun _=>rfl
 simp only[e1]
 refine wpAny_bind (pJ (use:=some (fun v=>assign (.Name y py) env v)) (Q':=fun _ s'=>wpAny (model c.prog c.w) A (pure ():Sem Unit) (fun _ s''=>wpAny (model c.prog c.w) A (pure Flow.next:Sem Flow) Q' E' s'') E' s') K hs R H F h fun h1 t1 V1 acc C D H1 S1 hD hu hb h0 hDC huC hbC h0C q hsys hm=>?_)
 show wpAny _ A (assign (.Name y py) env (.ref D)) _ _ _
 refine dP hm fun m hm=>?_
 refine v7 (id hm) fun oC _ _ hoC _=>?_
 refine dP hD.live fun oD hoD=>?_
 have F1:=F.after S1
 have notOwn:∀a o,h1.get? a=some o->s.heap.get? a=none->¬mv env a:=fun a o ho hn hown=>by
  rcases hown with e| ⟨n,e⟩
  ·obtain⟨m',⟨oL,_,_,hL,_⟩,_⟩:=F.ns
   rw[←e,hn]at hL;cases hL
  ·obtain⟨_,_,_,oc,hc⟩:=F.outC n a e
   rw[hn]at hc;cases hc
 have nC:=notOwn C oC hoC h0C
 have nD:=notOwn D oD hoD h0
 refine wpAny_assign_Name (jv (c:=c) (d:=d) (V:=V1) (l:=l) (Q:=fun _ l' V'=>l'=eW l y (.ref D)/\V'=V1) hy ⟨rfl,rfl⟩ A {s with heap:=h1,toks:=t1} _ E' R H1 F1 fun _ h2 t2 l2 V2 H2 S2 F2 q2=>?_)
 refine ff q2 fun z0 z1=>?_;subst z0;subst z1
 have C2:∀o,h1.get? C=some o->h2.get? C=some o:=fun o e=>S2.keep C o e (.inl huC) nC
 have D2:∀o,h1.get? D=some o->h2.get? D=some o:=fun o e=>S2.keep D o e (.inl hu) nD
 refine⟨m,hm.at' C2,fun h3 hs3=>wpAny_pure (wpAny_pure ?_)⟩
 have hk3:∀b o,b≠C->h2.get? b=some o->h3.get? b=some o:=fun b o hb e=>hs3.extBut b o hb e
 have H3:=H2.off hk3 huC hbC
 have S13:=((S1.weaken (Y:=mv env) fun _ f=>f.elim).trans S2).off hk3 h0C
 have F3:=F2.off hk3 nC
 have hD3:fB c h3 D acc:=hD.at fun o e=>hk3 D o hDC (D2 o e)
 have q3:=q D hu
 have fr:∀o,aW c env (eW l y (.ref D)) (V2.set D o) h3:=fun o=>by
  refine⟨F3.kind,F3.glob,F3.blt,F3.ns,F3.cell,F3.capart,⟨?_,F3.outL.2⟩,fun n a hm'=>?_⟩
  ·have:env.locals≠D:=fun e=>nD (.inl e.symm)
   simp only[St.set,this,if_false];exact F3.outL.1
  ·have:a≠D:=fun e=>nD (.inr ⟨n,e▸hm'⟩)
   simp only[St.set,this,if_false];exact F3.outC n a hm'
 induction acc with
 |l vs=>exact k .next h3 t2 (eW l y (.ref D)) (V2.set D (.list vs)) (H3.enlist hb hD3) (S13.enlist h0 hu) (fr _) q3
 |d kvs=>
  obtain⟨l',⟨o,es,ep,ho,r⟩,hl'⟩:=hD3
  exact k .next h3 t2 (eW l y (.ref D)) (V2.set D (.dict kvs ep)) (H3.enlist hb ⟨hsys,l',⟨o,es,ho,r⟩,hl'⟩) (S13.enlist h0 hu) (fr _) (q3 ep)
end
theorem nZ{ko:Str->Option NameKind}:∀{binds:List (Str×Value)} {m:Str->Option Value} {x:Str},(binds.map (·.1)).Nodup->ko x=some .local->
  bindL ko binds m x=(match binds.lookup x with|some v=>some v|none=>m x):=by
 intro zz
 induction zz with
 |nil=>
  intro m x _ _
  exact rfl
 |cons p0 r ih=>
  obtain⟨n,v⟩:=p0
  intro m x hn hk
  rw[List.map_cons,List.nodup_cons]at hn
  unfold bindL
  rw[ih hn.2 hk,List.lookup_cons]
  by_cases hx:x=n
  ·subst hx
   have hno:r.lookup x=none:=by
    induction hq:r.lookup x with
    |none=>rfl
    |some w=>exact absurd (List.mem_map.mpr ⟨_,mem_of_lookup hq,rfl⟩) hn.1
   rw[hno,if_pos hk];simp
  ·have hb:(x==n)=false:=by simpa using hx
   rw[hb]
   cases r.lookup x with
   |some w=>rfl
   |none=>
    dsimp only
    split
    ·exact if_neg hx
    ·rfl
theorem n6{ko:Str->Option NameKind}:∀{binds:List (Str×Value)} {m:Str->Option Value} {x:Str},(binds.map (·.1)).Nodup->ko x≠some .local->
  bindC ko binds m x=(match binds.lookup x with|some v=>some v|none=>m x):=by
 intro zz
 induction zz with
 |nil=>
  intro m x _ _
  exact rfl
 |cons p0 r ih=>
  obtain⟨n,v⟩:=p0
  intro m x hn hk
  rw[List.map_cons,List.nodup_cons]at hn
  unfold bindC
  rw[ih hn.2 hk,List.lookup_cons]
  by_cases hx:x=n
  ·subst hx
   have hno:r.lookup x=none:=by
    induction hq:r.lookup x with
    |none=>rfl
    |some w=>exact absurd (List.mem_map.mpr ⟨_,mem_of_lookup hq,rfl⟩) hn.1
   rw[hno,if_neg hk];simp
  ·have hb:(x==n)=false:=by simpa using hx
   rw[hb]
   cases r.lookup x with
   |some w=>rfl
   |none=>
    dsimp only
    split
    ·rfl
    ·exact if_neg hx
theorem iF(l:List (Str×Value))(x:Str):(l.map fun p=>(p.1,er p.2)).lookup x=(l.lookup x).map er:=by
 induction l with
 |nil=>rfl
 |cons p r ih=>
  obtain⟨n,v⟩:=p
  rw[List.map_cons,List.lookup_cons,List.lookup_cons]
  by_cases hx:(x==n)=true
  ·rw[hx];rfl
  ·have hb:(x==n)=false:=by simpa using hx
   rw[hb];exact ih
structure yQ(K:Frag)(fd:FuncData)(ps:List Str)(body:List Stmt):Prop where
 body:fd.body= .stmts body
 clo:fd.closure=[]
 code:codeIn K fd.code fd.qualname=true
 co:fd.scope.isCoroutine=false
 gen:fd.scope.isGenerator=false
 kind:fd.scope.kind= .function
 glob:fd.globals=mainGlobals
 blt:fd.builtins=builtinsNs
 nd:ps.Nodup
 par:∀x∈ps,fd.scope.names.lookup x=some .local∨fd.scope.names.lookup x=some .cell
 nofree:∀x,fd.scope.names.lookup x≠some .free
 cells:((cellsFrom 0 fd.scope.names []).map (·.1)).Nodup
section
variable{c:Cx}{d:Nat}{env:Env}{l:au}{V:St}{p:Pos}{Q:Value->St->Prop}
theorem tZ{ps:List Str}{vs:List Value}(h:ps.length=vs.length):(ps.zip vs).map (·.1)=ps:=by
 induction ps generalizing vs with
 |nil=>rfl
 |cons p r ih=>induction vs using bD with
  |nil=>cases h
  |cons v vs=>rw[List.zip_cons_cons,List.map_cons,ih (Nat.succ.inj h)]
theorem CE{α:Type}{l:List α}(h:l.length=2):∃a b,l=[a,b]:=by
 induction l using bD with
 |nil=>cases h
 |cons a l=>induction l using bD with
  |nil=>cases h
  |cons b l=>induction l using bD with
   |nil=>exact⟨a,b,rfl⟩
   |cons _ _=>cases h
theorem yR(ps:List Str)(rvs:List Value):(ps.zip rvs).map (fun p=>(p.1,er p.2))=ps.zip (rvs.map er):=by
 induction ps generalizing rvs with
 |nil=>rfl
 |cons p r ih=>induction rvs using bD with
  |nil=>rfl
  |cons v vs=>simp only[List.zip_cons_cons,List.map_cons,ih]
def ab(c:Cx)(d:Nat)(f:Value)(vs:List Value)(V:St)(Q:Value->St->Prop):Prop:=
 ∀rvs,rvs.map er=vs->∀(A:Around) (s:Shared) (R':Result->Shared->Prop),gD A d->bc c V s.heap->
  (∀v h' tk V',bc c V' h'->bM (fun _=>False) V s.heap V' h'->Q (er v) V'->R' (.ok (.ret v)) {s with heap:=h',toks:=tk})->
  codeAny (model c.prog c.w) A (.call f ⟨rvs,[]⟩) R' s
theorem ab.calls{f:Value}{vs:List Value}(h:ab c d f vs V Q):Calls c d f vs V Q:=fun rvs e A s Q' E' R H k=>
 wpAny_call (h rvs e A s _ R H fun v h1 t1 V1 H1 S1 q=>k v h1 t1 V1 H1 S1 q)
theorem sO{f:Addr}{o:Obj}{fd:FuncData}{ps:List Str}{body:List Stmt}{vs:List Value}(hf:c.K.lookup f=some o)(hd:o.data= .func fd)(ok:yQ c.K fd ps body)(hlen:ps.length=vs.length)
  (hbind:∀(s:Shared) (rvs:List Value),c.K.In s.heap->rvs.length=ps.length->BindsTo s fd ⟨rvs,[]⟩ (ps.zip rvs))
  (h:∀env:Env,(∀x,env.kindOf x=fd.scope.names.lookup x)->SS c d env (ps.zip vs) body V fun f l' V'=>match f with| .ret v=>Q v V'| .next=>Q .none V'| .other=>False):
  ab c (d+1) (.ref f) vs V Q:=fun rvs e A s R' R H k=>by
 subst e
 have hlen':rvs.length=ps.length:=by rw[hlen,List.length_map]
 have hK:c.K.In s.heap:=fun b o e=>H.base b o (c.kin b o e)
 refine codeAny_call_function (by have:=R.2.1;exact bK this) (hK f o hf) hd ok.co ok.gen ok.body (codeRec_of hK ok.code) (hbind s rvs hK hlen' _ _ _ _ ?_)
 rw[ok.clo]
 have hz:(ps.zip rvs).map (·.1)=ps:=tZ hlen'.symm
 refine wpAny_newFunctionEnv_cells ok.kind (fun x hx=>?_) fun env' he s' x=>?_
 ·have hm:x.1∈ps:=by rw[←hz];exact List.mem_map.mpr ⟨x,hx,rfl⟩
  rcases ok.par x.1 hm with q|q
  ·exact .inl q
  ·exact .inr ⟨q,cellsFrom_some _ _ _ (.inl q)⟩
 ·subst he
  refine⟨(c.lim.keeps H.base).keeps x.toInCall.keep,codeAny_func ?_⟩
  refine fM x.done fun h1 tk z2 _=>?_;subst z2
  generalize henv:newEnv fd.scope s.heap.objs.size fd.globals (cellsFrom (s.heap.objs.size+1) fd.scope.names []) (fd.qualname++".<locals>.") (some f) fd.code none fd.builtins=env at x ⊢
  have el:env.locals=s.heap.objs.size:=by rw[←henv];rfl
  have ek:∀y,env.kindOf y=fd.scope.names.lookup y:=fun y=>by rw[←henv];rfl
  have ec:env.cells=cellsFrom (s.heap.objs.size+1) fd.scope.names []:=by rw[←henv];rfl
  have hk1:=x.toInCall.keep
  refine ff (H.extra (h':=h1) hk1) fun H1 S1=>?_
  have hnd:(env.cells.map (·.1)).Nodup:=by rw[ec];exact cellsFrom_names fd.scope.names 0 (s.heap.objs.size+1) [] [] rfl▸ok.cells
  have fresh:∀a,s.heap.objs.size<=a->V a=none/\c.base.get? a=none:=fun a ha=>by
   have hn:s.heap.get? a=none:=by
    induction e:s.heap.get? a with
    |none=>rfl
    |some o'=>exact absurd (Heap.lt_size e) (Nat.not_lt.mpr ha)
   refine⟨H.fresh hn,?_⟩
   induction e:c.base.get? a with
   |none=>rfl
   |some o'=>have:=H.base a o' e;rw[hn]at this;cases this
  have lk:∀y,(ps.zip (rvs.map er)).lookup y=((ps.zip rvs).lookup y).map er:=fun y=>by rw[←yR,iF]
  have F:aW c env (ps.zip (rvs.map er)) V h1:=by
   refine⟨by rw[←henv];exact ok.kind,by rw[←henv];exact ok.glob,by rw[←henv];exact ok.blt,⟨_,x.toInCall.ns,fun y hy=>?_⟩,fun y hy=>?_,x.apart,?_,fun n a hm=>?_⟩
   ·rw[nZ (by rw[hz];exact ok.nd) hy,lk]
    cases (ps.zip rvs).lookup y<;>rfl
   ·have hyc:fd.scope.names.lookup y=some .cell:=by
     rw[ek]at hy
     exact hy.resolve_right (ok.nofree y)
    refine dP (Option.isSome_iff_exists.mp (cellsFrom_some fd.scope.names (s.heap.objs.size+1) [] (.inl hyc))) fun a ha=>?_
    have ha':env.cells.lookup y=some a:=by rw[ec];exact ha
    refine⟨a,_,ha',x.cell y a ha',?_⟩
    rw[n6 (by rw[hz];exact ok.nd) (by rw[ek,hyc];exact fun q=>by cases q),lk]
    cases (ps.zip rvs).lookup y<;>rfl
   ·rw[el];exact fresh _ (Nat.le_refl _)
   ·have hab:=x.above n a hm
    rw[el]at hab
    have hl:=fresh a (Nat.le_of_lt hab)
    refine be (x.cell n a (lookup_of_mem_nodup hnd hm)) fun o ho _=>?_
    exact⟨hl.1,hl.2,by rw[el];exact Nat.ne_of_gt hab,o,ho⟩
  have R1:gD (A.deeper env) d:=⟨R.1,by have:=R.2.1;show A.depth+1+d<_;rw[Nat.add_assoc,Nat.add_comm 1 d];exact this,by have:=R.2.2;show A.units+3+8*d<_;exact bK this⟩
  refine h env ek (A.deeper env) {s with heap:=h1,toks:=tk} _ _ R1 H1 F fun fl h2 t2 l2 V2 H2 S2 F2 q=>?_
  have S2':bM (fun _=>False) V s.heap V2 h2:=(S1.weaken (Y:=mv env) fun _ f=>f.elim).trans S2|>.shrink fun b o e ho=>by
   have hlt:=Heap.lt_size e
   rcases ho with q| ⟨n,q⟩
   ·rw[q,el]at hlt;exact absurd hlt (Nat.lt_irrefl _)
   ·have:=x.above n b q
    rw[el]at this
    exact absurd (Nat.lt_trans this hlt) (Nat.lt_irrefl _)
  induction fl with
  |ret v=>exact k v h2 t2 V2 H2 S2' q
  |next=>exact k .none h2 t2 V2 H2 S2' q
  |brk=>exact q.elim
  |cont=>exact q.elim
end
theorem mZ{es:List DictEntry}{fs:List (Str×Value)}(h:PySem.Paired eE es fs)(x:Str):(es.find? (·.key.isStr x)).map (fun e=>er e.val)=fs.lookup x:=by
 induction h with
 |nil=>rfl
 |cons h1 hr0 ih=>
  rename_i e p l1 l2
  obtain⟨⟨t,hk⟩,hv⟩:=h1
  obtain⟨n,v⟩:=p
  rw[List.find?_cons,List.lookup_cons,hk]
  show Option.map _ (match n==x with|true=>some e|false=>_)=_
  by_cases hx:x=n
  ·subst hx;simp[hv]
  ·have h1:(n==x)=false:=by simpa using Ne.symm hx
   have h2:(x==n)=false:=by simpa using hx
   rw[h1,h2];exact ih
theorem kR{es:List DictEntry}{fs:List (Str×Value)}(h:PySem.Paired eE es fs):es.any (·.refKey)=false:=by
 induction h with
 |nil=>rfl
 |cons h1 _ ih=>obtain⟨⟨t,hk⟩,hv⟩:=h1;rw[List.any_cons,ih];simp[DictEntry.refKey,hk]
theorem pK{es:List DictEntry}{fs:List (Str×Value)}(h:PySem.Paired eE es fs)(x:Str)(hsh:Int)(t:Tok)(v:Value):PySem.Paired eE (putL x hsh (.str x t) v es) (eW fs x (er v)):=by
 induction h with
 |nil=>exact .cons ⟨⟨t,rfl⟩,rfl⟩ .nil
 |cons h1 r ih=>
  rename_i e p l1 l2
  obtain⟨⟨u,hk⟩,hv⟩:=h1
  obtain⟨n,w⟩:=p
  unfold putL
  rw[hk]
  show PySem.Paired eE (if(n==x)=true then _ else _) _
  by_cases hx:(x==n)=true
  ·rw[nW hx,if_pos (beq_iff_eq.mpr (eq_of_beq hx).symm)];exact .cons ⟨⟨u,rfl⟩,rfl⟩ r
  ·rw[qI hx,if_neg fun q=>hx (beq_iff_eq.mpr (eq_of_beq q).symm)]
   exact .cons ⟨⟨u,hk⟩,hv⟩ ih
theorem pL{es:List DictEntry}{fs:List (Str×Value)}(h:PySem.Paired eE es fs):es.length=fs.length:=h.length
theorem rR(l:au)(x:Str)(v:Value):(eW l x v).length<=l.length+1:=by
 induction l with
 |nil=>exact Nat.le_refl _
 |cons p r ih=>
  obtain⟨n,w⟩:=p
  by_cases hx:(x==n)=true
  ·rw[nW hx];exact Nat.le_succ _
  ·rw[qI hx];exact Nat.succ_le_succ ih
noncomputable def dC(K:Frag)(C:Addr):Bool:=
 plainGet K C Str.empty&&hasDictIn K C&&plainOver K C&&makesIn K C&&findIn K (.ref C) "__setattr__"==some (some (.builtin "object.__setattr__"))&&
 findIn K (.ref C) "__class__"==some (some (.builtin "object.__class__"))&&mroIn K C (.type "object")==some true&&
 specialIn K (.builtin "object.__class__") "__get__"==some (some (.builtin "getset_descriptor.__get__"))&&takesIn K (.builtin "object.__class__")==some true
noncomputable def aI(K:Frag)(C:Addr)(n:Str):Bool:=findIn K (.ref C) n==some none
structure iG(K:Frag)(C:Addr):Prop where
 get:∀n,plainGet K C n=true
 dict:hasDictIn K C=true
 over:plainOver K C=true
 makes:makesIn K C=true
 set:findIn K (.ref C) "__setattr__"=some (some (.builtin "object.__setattr__"))
 cls:findIn K (.ref C) "__class__"=some (some (.builtin "object.__class__"))
 mro:mroIn K C (.type "object")=some true
 clsGet:specialIn K (.builtin "object.__class__") "__get__"=some (some (.builtin "getset_descriptor.__get__"))
 takes:takesIn K (.builtin "object.__class__")=some true
theorem iG.of{K:Frag}{C:Addr}(h:dC K C=true):iG K C:=by
 unfold dC at h
 simp only[Bool.and_eq_true,beq_iff_eq]at h
 obtain⟨⟨⟨⟨⟨⟨⟨⟨a,b⟩,c⟩,d⟩,e⟩,f⟩,g⟩,i⟩,j⟩:=h
 exact⟨fun n=>a,b,c,d,e,f,g,i,j⟩
section
variable{c:Cx}{d:Nat}{env:Env}{l:au}{V:St}{p:Pos}{Q:Value->St->Prop}
theorem kz{C x dx:Addr}{fs:List (Str×Value)}{h:Heap}(H:bc c V h)(hx:rd V x=some (.inst C dx))(hd:rd V dx=some (.attr fs)):
  ∃es n,PySem.Paired eE es fs/\W.InstAt h x (instObj C dx) C (some (dictOf es n)):=by
 refine fM (H.rd hd) fun es n ho q=>?_
 exact⟨es,n,q,⟨H.rd hx,rfl,rfl,ho⟩⟩
theorem sP(v:Value):handedIn (er v)=handedIn v:=by induction v<;>rfl
theorem pM{es:List DictEntry}{fs:List (Str×Value)}{n:Nat}{x:Str}{v:Value}(q:PySem.Paired eE es fs)(h:fs.lookup x=some v):∃r,lookIn x (dictOf es n)=some (some r)/\er r=v:=by
 have:=mZ q x
 rw[h]at this
 rw[lookIn_dict]
 unfold getL
 induction hf:es.find? (·.key.isStr x)with
 |none=>rw[hf]at this;cases this
 |some e=>rw[hf]at this;exact⟨e.val,rfl,Option.some.inj this⟩
theorem pN{es:List DictEntry}{fs:List (Str×Value)}{n:Nat}{x:Str}(q:PySem.Paired eE es fs)(h:fs.lookup x=none):lookIn x (dictOf es n)=some none:=by
 have:=mZ q x
 rw[h]at this
 rw[lookIn_dict]
 unfold getL
 induction hf:es.find? (·.key.isStr x)with
 |none=>simp only;rw[kR q];simp
 |some e=>rw[hf]at this;cases this
theorem n7{C x dx:Addr}{fs:List (Str×Value)}{a:Str}{v:Value}(hx:rd V x=some (.inst C dx))(hd:rd V dx=some (.attr fs))(hv:fs.lookup a=some v)
  (hC:iG c.K C) (ha:aI c.K C a=true) (hh:handedIn v=true) (h:Q v V) (b:Bool):J1 c d (fun o=>getAttr o a b) (.ref x) V Q:=fun o e A s Q' E' R H k=>by
 obtain rfl:o= .ref x:=by induction o<;>simp only[er,reduceCtorEq,Value.ref.injEq]at e;rw[e]
 refine fM (kz H hx hd) fun es n q I=>?_
 refine be (pM (n:=n) q hv) fun r hl hr=>?_
 refine get_value (fun b o e=>H.base b o (c.kin b o e)) I (plainGet_of (hC.get a)).1 (findObj_own hC.dict (attr:=none) (by simpa [aI]using ha) rfl hl) (by rw[←sP,hr];exact hh) ?_
 exact k r s.heap _ V H (.refl ..) (by dsimp only;rw[hr];exact h)
theorem kS{C x dx f:Addr}{fs:List (Str×Value)}{m:Str}{QM:Value->List Value->St->Prop}(hx:rd V x=some (.inst C dx))(hd:rd V dx=some (.attr fs))(hv:fs.lookup m=none)
  (hC:iG c.K C) (hf:findIn c.K (.ref C) m=some (some (.ref f))) (ht:isFn c.K (.ref f)=true) (h:QM (.ref f) [.ref x] V):gT c d m (.ref x) V QM:=fun o pl e A s Q' E' R H k=>by
 obtain rfl:o= .ref x:=by induction o<;>simp only[er,reduceCtorEq,Value.ref.injEq]at e;rw[e]
 refine fM (kz H hx hd) fun es n q I=>?_
 refine method_fn (fun b o e=>H.base b o (c.kin b o e)) I (plainGet_of (hC.get m)).1 (plainGet_of (hC.get m)).2 hf (beq_iff_eq.mp ht) (by show(lookIn m (dictOf es n)).map _=_;rw[pN q hv];rfl) ?_
 exact k (.ref f,[.ref x]) s.heap s.toks V H (.refl ..) h
theorem fR{C fI:Addr}{vs:List Value}(hC:iG c.K C)(hi:findIn c.K (.ref C) "__init__"=some (some (.ref fI)))(ht:isFn c.K (.ref fI)=true)
  (h:∀x dx,V x=none->V dx=none->x≠dx->ab c d (.ref fI) (.ref x::vs) ((V.set dx (.attr [])).set x (.inst C dx)) fun r V'=>r= .none/\Q (.ref x) V'):
  ab c (d+1) (.ref C) vs V Q:=fun rvs e A s R' R H k=>by
 have hK:c.K.In s.heap:=fun b o e=>H.base b o (c.kin b o e)
 obtain⟨hh,g,dr,tk,os⟩:=s
 refine make_core (makes_of hK hC.makes) (looks_findIn hK hi) (fun self=>bind_fn hK self (beq_iff_eq.mp ht)) (.inl rfl) ?_
 have z1:(hh.push emptyDict).objs.size=hh.objs.size+1:=Heap.size_push ..
 obtain⟨H1,S1⟩:=H.alloc (a:=hh.objs.size) (h':=hh.push emptyDict) (o:= .attr []) (a9 _) (fun b ob e=>Heap.get?_push_of_some _ e) ⟨[],0,Heap.get?_push_size _ rfl,.nil⟩
 obtain⟨H2,S2⟩:=H1.alloc (a:=hh.objs.size+1) (h':=(hh.push emptyDict).push (instObj C hh.objs.size)) (o:= .inst C hh.objs.size) (by rw[←z1];exact a9 _) (fun b ob e=>Heap.get?_push_of_some _ e)
  (by show((hh.push emptyDict).push (instObj C hh.objs.size)).get? (hh.objs.size+1)=_;rw[←z1];exact Heap.get?_push_size _ rfl)
 have f1:V (hh.objs.size+1)=none:=by
  have:=H1.fresh (a:=hh.objs.size+1) (by rw[←z1];exact a9 _)
  have hne:¬hh.objs.size+1=hh.objs.size:=Nat.succ_ne_self _
  simpa [St.set,hne]using this
 have R1:gD (A.under (.builtin "type.__call__" ⟨.ref C::rvs,[]⟩)) d:=by
  refine⟨R.1,?_,?_⟩
  ·have:=R.2.1
   have e:(A.under (.builtin "type.__call__" ⟨.ref C::rvs,[]⟩)).depth=A.depth+1:=rfl
   rw[e,Nat.add_assoc,Nat.add_comm 1 d];exact this
  ·have:=R.2.2
   have e:(A.under (.builtin "type.__call__" ⟨.ref C::rvs,[]⟩)).units=A.units+1:=rfl
   rw[e];exact bK this
 refine h (hh.objs.size+1) hh.objs.size f1 H.freshSize (Nat.succ_ne_self _) (.ref (hh.objs.size+1)::rvs) (by rw[List.map_cons,e];rfl) (A.under (.builtin "type.__call__" ⟨.ref C::rvs,[]⟩))
  ⟨(hh.push emptyDict).push (instObj C hh.objs.size),g,dr,tk,os⟩ _ R1 H2 fun v h3 t3 V3 H3 S3 q3=>?_
 have hv:v= .none:=by have:=q3.1;induction v<;>simp only[er,reduceCtorEq]at this;rfl
 exact⟨hv,k (.ref (hh.objs.size+1)) h3 t3 V3 H3 ((S1.trans S2).trans S3) q3.2⟩
end
theorem cU{v:Value}{i:Int}(h:er v= .int i 0):∃t,v= .int i t:=by
 induction v<;>simp only[er,reduceCtorEq,Value.int.injEq,and_true]at h;subst h;exact⟨_,rfl⟩
theorem cO{v:Value}{x:Str}(h:er v= .str x 0):∃t,v= .str x t:=by
 induction v<;>simp only[er,reduceCtorEq,Value.str.injEq,and_true]at h;subst h;exact⟨_,rfl⟩
theorem a6{v:Value}{a:Addr}(h:er v= .ref a):v= .ref a:=by
 induction v<;>simp only[er,reduceCtorEq,Value.ref.injEq]at h;rw[h]
theorem gH{v:Value}{b:Bool}(h:er v= .bool b):v= .bool b:=by
 induction v<;>simp only[er,reduceCtorEq,Value.bool.injEq]at h;rw[h]
theorem kA{v:Value}(h:er v= .none):v= .none:=by
 induction v<;>simp only[er,reduceCtorEq]at h;rfl
theorem rS{v:Value}{T:String}(h:er v= .type T):v= .type T:=by
 induction v<;>simp only[er,reduceCtorEq,Value.type.injEq]at h;rw[h]
section
variable{c:Cx}{d:Nat}{env:Env}{l:au}{V:St}{p:Pos}{Q:Value->St->Prop}{QB:Bool->St->Prop}
theorem cm{f:Value->Value->Sem Value}{x y:Value}(h:∀v w,er v=x->er w=y->∀(A:Around) (s:Shared) (Q':Value->Shared->Prop) (E':Value->Shared->Prop),gD A d->bc c V s.heap->
  (∀r tk,Q (er r) V->Q' r {s with toks:=tk})->wpAny (model c.prog c.w) A (f v w) Q' E' s):J2 c d f x y V Q:=fun v w e e'=>jt.same (h v w e e')
theorem jB{op:Operator}{a b r:Int}(h:Q (.int r 0) V)
  (hw:∀(A:Around) (s:Shared) (t u:Tok) (Q' E':Value->Shared->Prop),Q' (.int r s.toks) {s with toks:=s.toks+1}->wpAny (model c.prog c.w) A (binaryOp op (.int a t) (.int b u)) Q' E' s):
  J2 c d (binaryOp op) (.int a 0) (.int b 0) V Q:=cm fun v w e e' A s Q' E' R H k=>by
 obtain⟨t,rfl⟩:=cU e;obtain⟨u,rfl⟩:=cU e'
 exact hw A s t u Q' E' (k _ _ h)
theorem jY{a b:Int}(h:Q (.int (a+b) 0) V):J2 c d (binaryOp .Add) (.int a 0) (.int b 0) V Q:=jB h fun A s t u Q' E' q=>AutoIntOps.add_0 q
theorem gY{a b:Int}(h:Q (.int (a -b) 0) V):J2 c d (binaryOp .Sub) (.int a 0) (.int b 0) V Q:=jB h fun A s t u Q' E' q=>AutoIntOps.sub_0 q
theorem kT{a b:Int}(h:Q (.int (a*b) 0) V)(hm:IntMulOk a b):J2 c d (binaryOp .Mult) (.int a 0) (.int b 0) V Q:=jB h fun A s t u Q' E' q=>AutoIntOps.mul_0 q hm
theorem m0{a b:Int}(h:Q (.int (a.fmod b) 0) V)(hb:¬(b==0)=true):J2 c d (binaryOp .Mod) (.int a 0) (.int b 0) V Q:=jB h fun A s t u Q' E' q=>AutoIntOps.mod_1 hb q
theorem yk{a b:Int}(h:Q (.int (a.fdiv b) 0) V)(hb:¬(b==0)=true)(hp:¬(Builtin.divisionGoesByPylong a b)=true):J2 c d (binaryOp .FloorDiv) (.int a 0) (.int b 0) V Q:=
 jB h fun A s t u Q' E' q=>AutoIntOps.floordiv_1 hb hp q
theorem Bx{a b:Int}(h:Q (.int (a^b.toNat) 0) V)(hc0:b≥0)(hc1:¬(b==0)=true)(hc2:¬(a==0||a==1)=true)(hc3:¬(a== -1)=true)(hc4:¬Builtin.Int.intTooBig (((Builtin.Int.intBits a:Nat):Int) *b)=true):
  J2 c d (binaryOp .Pow) (.int a 0) (.int b 0) V Q:=jB h fun A s t u Q' E' q=>AutoIntOps.pow_4 hc0 hc1 hc2 hc3 hc4 q
theorem yS{a b:Int}(h:Q (.int (a+b) 0) V):J2 c d (inplaceOp .Add) (.int a 0) (.int b 0) V Q:=cm fun v w e e' A s Q' E' R H k=>by
 obtain⟨t,rfl⟩:=cU e;obtain⟨u,rfl⟩:=cU e'
 exact AutoIntOps.iadd_0 (k (.int (a+b) s.toks) _ h)
theorem kU{op:CmpOp}{a b:Int}{r:Bool}(h:Q (.bool r) V)
  (hw:∀(A:Around) (s:Shared) (t u:Tok) (Q' E':Value->Shared->Prop),Q' (.bool r) s->wpAny (model c.prog c.w) A (compareOp op (.int a t) (.int b u)) Q' E' s):
  J2 c d (compareOp op) (.int a 0) (.int b 0) V Q:=cm fun v w e e' A s Q' E' R H k=>by
 obtain⟨t,rfl⟩:=cU e;obtain⟨u,rfl⟩:=cU e'
 exact hw A s t u Q' E' (k _ s.toks h)
theorem i9{a b:Int}(h:Q (.bool (a==b)) V):J2 c d (compareOp .Eq) (.int a 0) (.int b 0) V Q:=kU h fun A s t u Q' E' q=>P.eq_int q
theorem t7{a b:Int}(h:Q (.bool (a != b)) V):J2 c d (compareOp .NotEq) (.int a 0) (.int b 0) V Q:=kU h fun A s t u Q' E' q=>P.ne_int q
theorem m7{a b:Int}(h:Q (.bool (decide (a<b))) V):J2 c d (compareOp .Lt) (.int a 0) (.int b 0) V Q:=kU h fun A s t u Q' E' q=>P.lt_int q
theorem pO{a b:Int}(h:Q (.bool (decide (a>b))) V):J2 c d (compareOp .Gt) (.int a 0) (.int b 0) V Q:=kU h fun A s t u Q' E' q=>P.gt_int q
theorem t8{a b:Int}(h:Q (.bool (decide (a≥b))) V):J2 c d (compareOp .GtE) (.int a 0) (.int b 0) V Q:=kU h fun A s t u Q' E' q=>P.ge_int q
theorem n8{op:CmpOp}{a b:Str}{r:Bool}(h:Q (.bool r) V)
  (hw:∀(A:Around) (s:Shared) (t u:Tok) (Q' E':Value->Shared->Prop),Q' (.bool r) s->wpAny (model c.prog c.w) A (compareOp op (.str a t) (.str b u)) Q' E' s):
  J2 c d (compareOp op) (.str a 0) (.str b 0) V Q:=cm fun v w e e' A s Q' E' R H k=>by
 obtain⟨t,rfl⟩:=cO e;obtain⟨u,rfl⟩:=cO e'
 exact hw A s t u Q' E' (k _ s.toks h)
theorem rT(x y:Str):(x.cps.toList==y.cps.toList)=(x==y):=by
 obtain⟨a⟩:=x;obtain⟨b⟩:=y
 by_cases h:a=b
 ·subst h;simp
 ·have h1:¬a.toList=b.toList:=fun e=>h (Array.ext' e)
  have h2:¬(Str.mk a=Str.mk b):=fun e=>h (by injection e)
  rw[beq_eq_false_iff_ne.mpr h1,beq_eq_false_iff_ne.mpr h2]
theorem iH{a b:Str}(h:Q (.bool (a==b)) V):J2 c d (compareOp .Eq) (.str a 0) (.str b 0) V Q:=n8 h fun A s t u Q' E' q=>P.eq_str (by rw[rT];exact q)
theorem t9{a b:Str}(h:Q (.bool (a != b)) V):J2 c d (compareOp .NotEq) (.str a 0) (.str b 0) V Q:=n8 h fun A s t u Q' E' q=>P.ne_str (by unfold bne;rw[rT];exact q)
theorem By{a b:Str}(h:Q (.bool (Txt.contains b a)) V):J2 c d (compareOp .In) (.str a 0) (.str b 0) V Q:=n8 h fun A s t u Q' E' q=>P.in_str q
theorem yT{a b:Str}(h:Q (.bool (!Txt.contains b a)) V):J2 c d (compareOp .NotIn) (.str a 0) (.str b 0) V Q:=n8 h fun A s t u Q' E' q=>P.notIn_str q
theorem jC{a b:Str}(hs:a.length+b.length<=16777216)(h:Q (.str (a++b) 0) V):J2 c d (binaryOp .Add) (.str a 0) (.str b 0) V Q:=cm fun v w e e' A s Q' E' R H k=>by
 obtain⟨t,rfl⟩:=cO e;obtain⟨u,rfl⟩:=cO e'
 exact KXadd.add (Nat.le_refl _) (Nat.le_refl _) hs fun t' tk _=>k (.str (a++b) t') tk h
theorem pP{v w:Value}(h:er w= .none)(hv:∀id,er v≠ .builtin id):plainIs v w=true:=by
 obtain rfl:=kA h
 induction v<;>first|rfl| (exact absurd rfl (hv _))
theorem kX(v:Value):(v== .none)=(er v== .none):=by induction v<;>rfl
theorem gZ{x:Value}(hx:∀id,x≠ .builtin id)(h:Q (.bool (x== .none)) V):J2 c d (compareOp .Is) x .none V Q:=cm fun v w e e' A s Q' E' R H k=>by
 subst e
 refine wpAny_is_plain (pP e' hx) ?_
 rw[kA e',kX]
 exact k _ s.toks h
theorem n9{x:Value}(hx:∀id,x≠ .builtin id)(h:Q (.bool (!(x== .none))) V):J2 c d (compareOp .IsNot) x .none V Q:=cm fun v w e e' A s Q' E' R H k=>by
 subst e
 refine wpAny_isNot_plain (pP e' hx) ?_
 rw[kA e',kX]
 exact k _ s.toks h
theorem Bz{a b:Bool}(h:Q (.bool (a==b)) V):J2 c d (compareOp .Eq) (.bool a) (.bool b) V Q:=cm fun v w e e' A s Q' E' R H k=>by
 obtain rfl:=gH e;obtain rfl:=gH e'
 exact PyProof.Rows.eq_bool (k _ s.toks h)
theorem BA{a b:Bool}(h:Q (.bool (a != b)) V):J2 c d (compareOp .NotEq) (.bool a) (.bool b) V Q:=cm fun v w e e' A s Q' E' R H k=>by
 obtain rfl:=gH e;obtain rfl:=gH e'
 exact PyProof.Rows.ne_bool (k _ s.toks h)
theorem rU{a:Addr}{vs:List Value}(hr:rd V a=some (.list vs))(hz:vs.length<2^62)(h:QB (!vs.isEmpty) V):Tr c d (.ref a) V QB:=fun v e=>jt.same fun A s Q' E' R H k=>by
 obtain rfl:=a6 e
 refine be (H.rd hr) fun xs hl hx=>?_
 refine wpAny_truthy_list hl.isList (by have:xs.size=vs.length:=by rw[←hx];simp
                                        lia) ?_
 have:(!xs.isEmpty)= !vs.isEmpty:=by rw[←hx];cases xs using Array.casesOn;rename_i l;cases l<;>rfl
 rw[this]
 exact k _ _ h
mutual
inductive g9(V:St):Value->PyData->Prop
 |none:g9 V .none .none
 |bool (b):g9 V (.bool b) (.bool b)
 |int (i):g9 V (.int i 0) (.int i)
 |str (x):g9 V (.str x 0) (.str x)
 |list {a vs ds}:rd V a=some (.list vs)->kY V vs ds->g9 V (.ref a) (.list ds)
 |tup {a vs ds}:rd V a=some (.tup vs)->kY V vs ds->g9 V (.ref a) (.tuple ds)
inductive kY(V:St):List Value->List PyData->Prop
 |nil:kY V [] []
 |cons {v vs x xs}:g9 V v x->kY V vs xs->kY V (v::vs) (x::xs)
end
theorem g9.reads{h:Heap}(H:bc c V h){x:Value}{e:PyData}(D:g9 V x e):∀v,er v=x->∃as,Reads h v e as:=by
 refine g9.rec (motive_1:=fun x e _=>∀v,er v=x->∃as,Reads h v e as) (motive_2:=fun xs es _=>∀vs,vs.map er=xs->∃as,ReadsAll h vs es as) ?_ ?_ ?_ ?_ ?_ ?_ ?_ ?_ D
 ·intro v q;obtain rfl:=kA q;exact⟨_,.none⟩
 ·intro b v q;obtain rfl:=gH q;exact⟨_,.bool b⟩
 ·intro i v q;obtain⟨t,rfl⟩:=cU q;exact⟨_,.int i t⟩
 ·intro x v q;obtain⟨t,rfl⟩:=cO q;exact⟨_,.str x t⟩
 ·intro a vs ds hr _ ih v q
  obtain rfl:=a6 q
  refine be (H.rd hr) fun xs hl hx=>?_
  obtain⟨o,ho,hc,n,hd⟩:=hl.isList
  refine dP (ih xs.toList hx) fun as ra=>?_
  exact⟨_,.list ho hc hd ra⟩
 ·intro a vs ds hr _ ih v q
  obtain rfl:=a6 q
  obtain⟨xs,⟨o,ho,hc,n,hd⟩,hx⟩:=H.rd hr
  refine dP (ih xs.toList hx) fun as ra=>?_
  exact⟨_,.tuple ho hc hd ra⟩
 ·intro vs q
  induction vs using bD with
  |nil=>exact⟨_,.nil⟩
  |cons _ _=>cases q
 ·intro v vs x xs _ _ i1 i2 ws q
  induction ws using bD with
  |nil=>cases q
  |cons w ws=>
   rw[List.map_cons]at q
   injection q with q1 q2
   refine dP (i1 w q1) fun as r=>?_
   refine dP (i2 ws q2) fun bs rs=>?_
   exact⟨_,.cons r rs⟩
theorem ua{x y:Value}{e f:PyData}(hx:g9 V x e)(hy:g9 V y f)(he:e.canLay0=true)(hf:f.canLay0=true)(hd:min e.depth f.depth<=8*d)(h:Q (.bool (PyData.eqv e f)) V):J2 c d (compareOp .Eq) x y V Q:=
 cm fun v w q q' A s Q' E' R H k=>by
  obtain⟨as,ra⟩:=hx.reads H v q;obtain⟨bs,rb⟩:=hy.reads H w q'
  exact SeqAt.compareEq_reads ra rb he hf (by have:=R.2.2;exact bC hd this) (k _ s.toks h)
theorem ub{x y:Value}{e f:PyData}(hx:g9 V x e)(hy:g9 V y f)(he:e.canLay0=true)(hf:f.canLay0=true)(hd:min e.depth f.depth<=8*d)(h:Q (.bool (!PyData.eqv e f)) V):J2 c d (compareOp .NotEq) x y V Q:=
 cm fun v w q q' A s Q' E' R H k=>by
  obtain⟨as,ra⟩:=hx.reads H v q;obtain⟨bs,rb⟩:=hy.reads H w q'
  exact SeqAt.compareNe_reads ra rb he hf (by have:=R.2.2;exact bC hd this) (k _ s.toks h)
theorem yl{x y:Value}{e:PyData}{fs:List PyData}(hx:g9 V x e)(hy:g9 V y (.list fs)∨g9 V y (.tuple fs))(he:e.canLay0=true)(hf:PyData.canLayAll0 fs=true)(hd:1+min (PyData.depthAll fs) e.depth<=8*d)
  (h:Q (.bool (fs.any fun y=>PyData.eqv y e)) V):J2 c d (compareOp .In) x y V Q:=
 cm fun v w q q' A s Q' E' R H k=>by
  refine dP (hx.reads H v q) fun as ra=>?_
  rcases hy with hy|hy
  ·refine dP (hy.reads H w q') fun bs rb=>?_
   exact SeqAt.in_list_reads rb ra hf he (by have:=R.2.2;exact bC hd this) (k _ s.toks h)
  ·refine dP (hy.reads H w q') fun bs rb=>?_
   exact SeqAt.in_tuple_reads rb ra hf he (by have:=R.2.2;exact bC hd this) (k _ s.toks h)
theorem yU{x y:Value}{e:PyData}{fs:List PyData}(hx:g9 V x e)(hy:g9 V y (.list fs)∨g9 V y (.tuple fs))(he:e.canLay0=true)(hf:PyData.canLayAll0 fs=true)(hd:1+min (PyData.depthAll fs) e.depth<=8*d)
  (h:Q (.bool (!fs.any fun y=>PyData.eqv y e)) V):J2 c d (compareOp .NotIn) x y V Q:=
 cm fun v w q q' A s Q' E' R H k=>by
  refine dP (hx.reads H v q) fun as ra=>?_
  rcases hy with hy|hy
  ·refine dP (hy.reads H w q') fun bs rb=>?_
   exact SeqAt.notIn_list_reads rb ra hf he (by have:=R.2.2;exact bC hd this) (k _ s.toks h)
  ·refine dP (hy.reads H w q') fun bs rb=>?_
   exact SeqAt.notIn_tuple_reads rb ra hf he (by have:=R.2.2;exact bC hd this) (k _ s.toks h)
end
theorem kZ(l:List (Str×Value))(x:Str):valueAt l x=l.lookup x:=by
 unfold valueAt
 induction l with
 |nil=>rfl
 |cons p r ih=>
  obtain⟨n,v⟩:=p
  rw[List.find?_cons,List.lookup_cons]
  by_cases h:n=x
  ·subst h;simp
  ·have h1:(x==n)=false:=by simpa using Ne.symm h
   have h2:decide (n=x)=false:=by simpa using h
   rw[h1];dsimp only;rw[h2];exact ih
theorem fD(l:List (Str×Value))(x:Str):(valueAt l x).map er=(l.map fun p=>(p.1,er p.2)).lookup x:=by rw[kZ,iF]
theorem m9(l m:List (Str×Value)):(merged l m).map (fun p=>(p.1,er p.2))=merged (l.map fun p=>(p.1,er p.2)) (m.map fun p=>(p.1,er p.2)):=by
 unfold merged
 induction m generalizing l with
 |nil=>rfl
 |cons p r ih=>rw[List.foldl_cons,ih,jz,List.map_cons,List.foldl_cons]
theorem qO(l:List (Str×Value))(x:Str):(without l x).map (fun p=>(p.1,er p.2))=without (l.map fun p=>(p.1,er p.2)) x:=by
 unfold without
 rw[List.filter_map];rfl
section
variable{c:Cx}{d:Nat}{env:Env}{l:au}{V:St}{p:Pos}{Q:Value->St->Prop}{QB:Bool->St->Prop}
theorem eG{h:Heap}(H:bc c V h){a:Addr}{kvs:List (Str×Value)}{ep:Nat}(hr:rd V a=some (.dict kvs ep)):
  (a==sysModules)=false/\∃l:List (Str×Value),h.DictAt (strKind c.prog c.w) a l ep/\l.map (fun p=>(p.1,er p.2))=kvs:=H.rd hr
theorem iN(x:Str)(t:Tok):(strKind c.prog c.w).is x (.str x t)=true:=by show Value.isStrOf x (.str x t)=true;simp[Value.isStrOf]
theorem nb{a:Addr}{kvs:List (Str×Value)}{ep:Nat}{x:Str}(hr:rd V a=some (.dict kvs ep))(h:Q (.bool (kvs.lookup x).isSome) V):J2 c d (compareOp .In) (.str x 0) (.ref a) V Q:=
 cm fun v w e e' A s Q' E' R H k=>by
  obtain⟨t,rfl⟩:=cO e;obtain rfl:=a6 e'
  obtain⟨hs,m,hm,rfl⟩:=eG H hr
  refine wpAny_in_of (knd:=strKind c.prog c.w) (iN x t) hs hm.dictOf.mapOf ?_
  rw[←fD,Option.isSome_map]at h
  exact k _ _ h
theorem dS{a:Addr}{kvs:List (Str×Value)}{ep:Nat}{x:Str}{v:Value}(hr:rd V a=some (.dict kvs ep))(hv:kvs.lookup x=some v)(h:Q v V):J2 c d getItem (.ref a) (.str x 0) V Q:=
 cm fun v0 w e e' A s Q' E' R H k=>by
  obtain⟨t,rfl⟩:=cO e';obtain rfl:=a6 e
  obtain⟨hs,m,hm,rfl⟩:=eG H hr
  rw[←fD,Option.map_eq_some_iff]at hv
  obtain⟨u,hu,rfl⟩:=hv
  exact wpAny_getItem_of (knd:=strKind c.prog c.w) (iN x t) hm.dictOf.mapOf hu (k _ _ h)
theorem jb{a:Addr}{kvs:List (Str×Value)}{ep:Nat}{x:Str}{v:Value}{QS:St->Prop}(hr:V a=some (.dict kvs ep))(hz:kvs.length<=sizeLine)(h:∀ep',QS (V.set a (.dict (stored kvs x v) ep'))):
  wc c d (.ref a) (.str x 0) v V QS:=fun ro ri rv e1 e2 e3 A s Q' E' R H k=>by
 obtain rfl:=a6 e1;obtain⟨t,rfl⟩:=cO e2;subst e3
 obtain⟨hs,m,hm,rfl⟩:=H.sim a _ hr
 refine wpAny_setItem_pairs (knd:=strKind c.prog c.w) (iN x t) hm.dictOf (fun h' hm' hs'=>?_) (by rw[List.length_map]at hz;exact hz)
 refine dP hm'.dictAt fun ep' hm'=>?_
 refine ff (H.update (h':=h') (o':= .dict (stored (m.map fun p=>(p.1,er p.2)) x (er rv)) ep') hr (fun r e=>by cases e) (fun b ob hb q=>by rw[hs'.2 b hb];exact q) ⟨hs,_,hm',jz m x rv⟩) fun H1 S1=>?_
 exact k () h' _ _ H1 S1 (h ep')
theorem qP{a:Addr}{kvs:List (Str×Value)}{ep:Nat}{m:Str}{id:String}{QM:Value->List Value->St->Prop}(slot:Slot "dict" m id)(ty:typeOf (.builtin id)=pure (.type "method_descriptor"))(hr:rd V a=some (.dict kvs ep))
  (h:QM (.builtin id) [.ref a] V):gT c d m (.ref a) V QM:=fun v pl e A s Q' E' R H k=>by
 obtain rfl:=a6 e
 obtain⟨hs,mm,hm,rfl⟩:=eG H hr
 exact getMethod_builtin hm.dictOf.typeIs PySem.F.plainAttrs_dict slot ty hm.dictOf.mapOf.noDict (k (.builtin id,[.ref a]) s.heap s.toks V H (.refl ..) h)
theorem k8{a:Addr}{kvs:List (Str×Value)}{ep:Nat}{QM:Value->List Value->St->Prop}(hr:rd V a=some (.dict kvs ep))(h:QM (.builtin "dict.get") [.ref a] V):gT c d "get" (.ref a) V QM:=
 qP PySem.F.slot_dict_get PySem.F.type_dict_get hr h
theorem pQ{a:Addr}{kvs:List (Str×Value)}{ep:Nat}{QM:Value->List Value->St->Prop}(hr:rd V a=some (.dict kvs ep))(h:QM (.builtin "dict.update") [.ref a] V):gT c d "update" (.ref a) V QM:=
 qP PySem.F.slot_dict_update PySem.F.type_dict_update hr h
theorem yV{a:Addr}{kvs:List (Str×Value)}{ep:Nat}{QM:Value->List Value->St->Prop}(hr:rd V a=some (.dict kvs ep))(h:QM (.builtin "dict.pop") [.ref a] V):gT c d "pop" (.ref a) V QM:=
 qP PySem.F.slot_dict_pop PySem.F.type_dict_pop hr h
theorem fE{rvs:List Value}{x:Value}(e:rvs.map er=[x]):∃v,rvs=[v]/\er v=x:=by
 induction rvs using bD with
 |nil=>cases e
 |cons v r=>induction r using bD with
  |nil=>simp only[List.map_cons,List.map_nil,List.cons.injEq,and_true]at e;exact⟨v,rfl,e⟩
  |cons _ _=>simp at e
theorem gm{rvs:List Value}{x y:Value}(e:rvs.map er=[x,y]):∃v w,rvs=[v,w]/\er v=x/\er w=y:=by
 induction rvs using bD with
 |nil=>cases e
 |cons v r=>
  rw[List.map_cons]at e
  injection e with e1 e2
  refine be (fE e2) fun w z1 e3=>?_;subst z1
  exact⟨v,w,rfl,e1,e3⟩
theorem BB{rvs:List Value}{x y z:Value}(e:rvs.map er=[x,y,z]):∃v w u,rvs=[v,w,u]/\er v=x/\er w=y/\er u=z:=by
 induction rvs using bD with
 |nil=>cases e
 |cons v r=>
  rw[List.map_cons]at e
  injection e with e1 e2
  refine fM (gm e2) fun w u z2 e3=>?_;subst z2
  exact⟨v,w,u,rfl,e1,e3⟩
theorem uc{a:Addr}{kvs:List (Str×Value)}{ep:Nat}{x:Str}(hr:rd V a=some (.dict kvs ep))(h:Q ((kvs.lookup x).getD .none) V):Calls c d (.builtin "dict.get") [.ref a,.str x 0] V Q:=fun rvs e=>jt.same fun A s Q' E' R H k=>by
 refine dl (gm e) fun v w z2 e1 e2=>?_;subst z2
 obtain rfl:=a6 e1;obtain⟨t,rfl⟩:=cO e2
 obtain⟨hs,m,hm,rfl⟩:=eG H hr
 refine call_meetsIn PySem.F.slot_dict_get hm.dictOf.typeIs PySem.F.entry_dict_get (PySem.F.args_dict_get_2 _ _) (meets_dict_get (strKind c.prog c.w) a (iN x t) hs) ⟨_,hm.dictOf.mapOf,k _ _ ?_⟩
 rw[←fD]at h
 have:er ((valueAt m x).getD .none)=((valueAt m x).map er).getD .none:=by cases valueAt m x<;>rfl
 rw[this];exact h
theorem ld{a:Addr}{kvs:List (Str×Value)}{ep:Nat}{x:Str}{y:Value}(hr:rd V a=some (.dict kvs ep))(h:Q ((kvs.lookup x).getD y) V):Calls c d (.builtin "dict.get") [.ref a,.str x 0,y] V Q:=fun rvs e=>jt.same fun A s Q' E' R H k=>by
 refine ku (BB e) fun v w u z3 e1 e2 z6=>?_;subst z3;subst z6
 obtain rfl:=a6 e1;obtain⟨t,rfl⟩:=cO e2
 obtain⟨hs,m,hm,rfl⟩:=eG H hr
 refine call_meetsIn PySem.F.slot_dict_get hm.dictOf.typeIs PySem.F.entry_dict_get (PySem.F.args_dict_get_3 _ _ _) (meets_dict_get_default (strKind c.prog c.w) a (iN x t) hs u) ⟨_,hm.dictOf.mapOf,k _ _ ?_⟩
 rw[←fD]at h
 have:er ((valueAt m x).getD u)=((valueAt m x).map er).getD (er u):=by cases valueAt m x<;>rfl
 rw[this];exact h
theorem pR{a b:Addr}{kvs more:List (Str×Value)}{ep ep2:Nat}(hab:a≠b)(hr:V a=some (.dict kvs ep))(hb:rd V b=some (.dict more ep2))(hz:kvs.length+more.length<=sizeLine)
  (h:∀ep',Q .none (V.set a (.dict (merged kvs more) ep'))):Calls c d (.builtin "dict.update") [.ref a,.ref b] V Q:=fun rvs e A s Q' E' R H k=>by
 refine dl (gm e) fun v w z2 e1 e2=>?_;subst z2
 obtain rfl:=a6 e1;obtain rfl:=a6 e2
 obtain⟨hs,m,hm,rfl⟩:=H.sim a _ hr
 obtain⟨hs2,m2,hm2,rfl⟩:=eG H hb
 refine call_meetsIn PySem.F.slot_dict_update hm.dictOf.typeIs PySem.F.entry_dict_update (PySem.F.args_dict_update_2 _ _) (meets_dict_update (strKind c.prog c.w) a b hab hs2)
  ⟨m,m2,hm.dictOf,hm2.dictOf,by simpa using hz,fun h' hm' _ hs'=>?_⟩
 refine dP hm'.dictAt fun ep' hm'=>?_
 refine ff (H.update (h':=h') (o':= .dict (merged (m.map fun p=>(p.1,er p.2)) (m2.map fun p=>(p.1,er p.2))) ep') hr (fun r e=>by cases e) (fun b ob hb q=>by rw[hs'.2 b hb];exact q) ⟨hs,_,hm',m9 m m2⟩) fun H1 S1=>?_
 exact k .none h' _ _ H1 S1 (h ep')
theorem yW{a:Addr}{kvs:List (Str×Value)}{ep:Nat}{x:Str}{v:Value}(hr:V a=some (.dict kvs ep))(hv:kvs.lookup x=some v)(hz:kvs.length<=sizeLine)
  (h:∀ep',Q v (V.set a (.dict (without kvs x) ep'))):Calls c d (.builtin "dict.pop") [.ref a,.str x 0] V Q:=fun rvs e A s Q' E' R H k=>by
 refine dl (gm e) fun v0 w z2 e1 e2=>?_;subst z2
 obtain rfl:=a6 e1;obtain⟨t,rfl⟩:=cO e2
 obtain⟨hs,m,hm,rfl⟩:=H.sim a _ hr
 rw[←fD,Option.map_eq_some_iff]at hv
 refine be hv fun u hu z2=>?_;subst z2
 refine call_meetsIn PySem.F.slot_dict_pop hm.dictOf.typeIs PySem.F.entry_dict_pop (PySem.F.args_dict_pop_2 _ _) (meets_dict_pop_there (strKind c.prog c.w) a (iN x t) [] (.inl rfl) rfl)
  ⟨m,u,hm.dictOf,by rw[List.length_map]at hz;exact hz,hu,fun h' hm' hs'=>?_⟩
 refine dP hm'.dictAt fun ep' hm'=>?_
 refine ff (H.update (h':=h') (o':= .dict (without (m.map fun p=>(p.1,er p.2)) x) ep') hr (fun r e=>by cases e) (fun b ob hb q=>by rw[hs'.2 b hb];exact q) ⟨hs,_,hm',qO m x⟩) fun H1 S1=>?_
 exact k u h' _ _ H1 S1 (h ep')
theorem oe{b:Addr}{more:List (Str×Value)}{ep2:Nat}(hb:rd V b=some (.dict more ep2))(hz:more.length<=sizeLine)
  (h:∀a ep',V a=none->Q (.ref a) (V.set a (.dict more ep'))):Calls c d (.type "dict") [.ref b] V Q:=fun rvs e A s Q' E' R H k=>by
 obtain⟨w,rfl,e2⟩:=fE e
 obtain rfl:=a6 e2
 obtain⟨hs2,m2,hm2,rfl⟩:=eG H hb
 refine kt_call_dict (knd:=strKind c.prog c.w) hs2 hm2.dictOf (by rw[List.length_map]at hz;exact hz) fun h' hm' hs'=>?_
 obtain⟨ep',hm'⟩:=hm'.dictAt
 obtain⟨H1,S1⟩:=H.alloc (h':=h') (a:=s.heap.objs.size) (o:= .dict (m2.map fun p=>(p.1,er p.2)) ep') (a9 _)
  (fun b ob q=>by rw[hs'.2 b (Nat.ne_of_lt (Heap.lt_size q))];exact Heap.get?_push_of_some _ q) ⟨v9 H,_,hm',rfl⟩
 exact k (.ref s.heap.objs.size) h' _ _ H1 S1 (h _ ep' H.freshSize)
end
section
variable{c:Cx}{d:Nat}{env:Env}{l:au}{V:St}{p:Pos}{Q:Value->St->Prop}{QB:Bool->St->Prop}
theorem jc{xs:Array Value}{vs:List Value}{i:Nat}{v:Value}(hx:xs.toList.map er=vs)(hv:vs[i]? =some v):∃u,xs[i]? =some u/\er u=v:=by
 subst hx
 rw[List.getElem?_map,Option.map_eq_some_iff]at hv
 refine be hv fun u hu e=>?_
 exact⟨u,by rw[←Array.getElem?_toList];exact hu,e⟩
theorem bY{xs:Array Value}{vs:List Value}(hx:xs.toList.map er=vs):xs.size=vs.length:=by subst hx;simp
theorem aP{a:Addr}{vs:List Value}{i:Nat}{k:Int}{v:Value}(hr:rd V a=some (.list vs)∨rd V a=some (.rlist vs)∨rd V a=some (.tup vs))(hk:k=i)(hv:vs[i]? =some v)(hz:i<2^62)(h:Q v V):J2 c d getItem (.ref a) (.int k 0) V Q:=
 cm fun v0 w e e' A s Q' E' R H kk=>by
  obtain⟨t,rfl⟩:=cU e';obtain rfl:=a6 e
  subst hk
  have hlt:i<vs.length:=(List.getElem?_eq_some_iff.mp hv).1
  rcases hr with hr|hr|hr
  ·obtain⟨xs,hl,hx⟩:=H.rd hr
   obtain⟨u,hu,rfl⟩:=jc hx hv
   exact wpAny_getItem_list hl.isList (by lia) (by lia) (by simpa using hu) (kk _ s.toks h)
  ·obtain⟨xs,hl,hx⟩:=H.rd hr
   obtain⟨u,hu,rfl⟩:=jc hx hv
   exact wpAny_getItem_list hl (by lia) (by lia) (by simpa using hu) (kk _ s.toks h)
  ·obtain⟨xs,hl,hx⟩:=H.rd hr
   obtain⟨u,hu,rfl⟩:=jc hx hv
   have hs:=bY hx
   refine PyProof.Rows.getItem_tuple (j:=i) hl (by lia) (by lia) ?_ hu (kk _ s.toks h)
   unfold seqIndex?
   have h1:¬((i:Int)<0):=by lia
   simp only[h1,if_false]
   have h2:(decide (0<=(i:Int))&&decide ((i:Int)<xs.size))=true:=by simp;exact bC hlt (Nat.le_of_eq hs.symm)
   rw[if_pos h2];rfl
theorem jd{h:Heap}{a:Addr}{xs:Array Value}{n:Nat}{f:Array Value->Array Value}(ho:h.get? a=some {cls:= .type "list",data:= .seq xs n}):(h.update a (Obj.mapSeq f)).PlainList a (f xs):=by
 refine⟨if(f xs).size==xs.size then n else n+1,?_⟩
 rw[Heap.get?_update_self _ ho rfl]
 rfl
theorem fj{h h':Heap}{a:Addr}{vs ws:List Value}{xs:Array Value}(H:bc c V h)(hr:V a=some (.list vs))(hs:Heap.SameBut a h h')(hl:h'.PlainList a xs)(hx:xs.toList.map er=ws):
  bc c (V.set a (.list ws)) h'/\bM (fun _=>False) V h (V.set a (.list ws)) h':=
 H.update hr (fun r e=>by cases e) (fun b ob hb q=>by rw[hs.2 b hb];exact q) ⟨xs,hl,hx⟩
theorem gn{h h':Heap}{a:Addr}{ws:List Value}{xs:Array Value}(H:bc c V h)(ha:h.get? a=none)(hk:∀b ob,h.get? b=some ob->h'.get? b=some ob)(hl:h'.PlainList a xs)(hx:xs.toList.map er=ws):
  bc c (V.set a (.list ws)) h'/\bM (fun _=>False) V h (V.set a (.list ws)) h':=H.alloc ha hk ⟨xs,hl,hx⟩
theorem ud{h h':Heap}{a:Addr}{ws:List Value}{xs:Array Value}(H:bc c V h)(ha:h.get? a=none)(hk:∀b ob,h.get? b=some ob->h'.get? b=some ob)(hl:IsTup h' a xs)(hx:xs.toList.map er=ws):
  bc c (V.set a (.tup ws)) h'/\bM (fun _=>False) V h (V.set a (.tup ws)) h':=H.alloc ha hk ⟨xs,hl,hx⟩
theorem kB{a:Addr}{vs:List Value}{i:Nat}{k:Int}{v:Value}{QS:St->Prop}(hr:V a=some (.list vs))(hk:k=i)(hi:i<vs.length)(hz:vs.length<2^62)(h:QS (V.set a (.list (vs.set i v)))):
  wc c d (.ref a) (.int k 0) v V QS:=fun ro ri rv e1 e2 e3 A s Q' E' R H kk=>by
 obtain rfl:=a6 e1;obtain⟨t,rfl⟩:=cU e2;subst e3;subst hk
 obtain⟨xs,⟨n,ho⟩,hx⟩:=H.sim a _ hr
 have hs:=bY hx
 refine ki_setAt ho (by lia) (by lia) (by lia) ?_
 refine ff (fj H hr (.update s.heap a (Obj.mapSeq (·.setIfInBounds ((i:Int).toNat) rv))) (jd ho) (ws:=vs.set i (er rv)) (by rw[←hx];simp[List.map_set])) fun H1 S1=>?_
 exact kk () _ _ _ H1 S1 h
theorem qQ{a:Addr}{vs:List Value}{m:Str}{id:String}{QM:Value->List Value->St->Prop}(slot:Slot "list" m id)(ty:typeOf (.builtin id)=pure (.type "method_descriptor"))(hr:V a=some (.list vs))
  (h:QM (.builtin id) [.ref a] V):gT c d m (.ref a) V QM:=fun v pl e A s Q' E' R H k=>by
 obtain rfl:=a6 e
 obtain⟨xs,⟨n,ho⟩,hx⟩:=H.sim a _ hr
 exact getMethod_builtin ⟨_,ho,rfl⟩ PySem.F.plainAttrs_list slot ty (fun b e=>by cases e;exact⟨_,ho,rfl⟩) (k (.builtin id,[.ref a]) s.heap s.toks V H (.refl ..) h)
theorem dT{a:Addr}{vs:List Value}{QM:Value->List Value->St->Prop}(hr:V a=some (.list vs))(h:QM (.builtin "list.append") [.ref a] V):gT c d "append" (.ref a) V QM:=qQ PySem.F.slot_list_append PySem.F.type_list_append hr h
theorem ue{a:Addr}{vs:List Value}{QM:Value->List Value->St->Prop}(hr:V a=some (.list vs))(h:QM (.builtin "list.extend") [.ref a] V):gT c d "extend" (.ref a) V QM:=qQ PySem.F.slot_list_extend PySem.F.type_list_extend hr h
theorem yX{a:Addr}{vs:List Value}{QM:Value->List Value->St->Prop}(hr:V a=some (.list vs))(h:QM (.builtin "list.pop") [.ref a] V):gT c d "pop" (.ref a) V QM:=qQ PySem.F.slot_list_pop PySem.F.type_list_pop hr h
theorem dU{a:Addr}{vs:List Value}{v:Value}(hr:V a=some (.list vs))(hz:vs.length<=sizeLine)(h:Q .none (V.set a (.list (vs++ [v])))):Calls c d (.builtin "list.append") [.ref a,v] V Q:=fun rvs e A s Q' E' R H k=>by
 refine dl (gm e) fun v0 w z2 e1 z4=>?_;subst z2;subst z4
 obtain rfl:=a6 e1
 refine be (H.sim a _ hr) fun xs hl hx=>?_
 refine wpAny_list_append_plain hl (fun h' hl' hs'=>?_) (by rw[bY hx];exact hz)
 refine ff (fj H hr hs' hl' (ws:=vs++ [er w]) (by rw[←hx];simp)) fun H1 S1=>?_
 exact k .none _ _ _ H1 S1 h
theorem uf{a b:Addr}{vs ws:List Value}(hr:V a=some (.list vs))(hb:rd V b=some (.list ws))(hz:vs.length+ws.length<=1000000)(h:Q .none (V.set a (.list (vs++ws)))):Calls c d (.builtin "list.extend") [.ref a,.ref b] V Q:=fun rvs e A s Q' E' R H k=>by
 refine dl (gm e) fun v0 w z2 e1 e2=>?_;subst z2
 obtain rfl:=a6 e1;obtain rfl:=a6 e2
 obtain⟨xs,⟨n,ho⟩,hx⟩:=H.sim a _ hr
 obtain⟨ys,⟨n2,ho2⟩,hy⟩:=H.rd hb
 have h1:=bY hx
 have h2:=bY hy
 have hsz:sizeLine=16777216:=sizeLine_eq
 refine call_meets PySem.F.slot_list_extend ⟨_,ho,rfl⟩ PySem.F.entry_list_extend (PySem.F.args_list_extend_2 _ _) (PySem.AutoSeq1.list_extend_list_list_0 a xs n b ys n2 (by simp[Builtin.List.listTooLong];lia) (by lia) (by lia)) ⟨ho,ho2,?_⟩
 refine ff (fj H hr (.update s.heap a (Obj.mapSeq fun x=>x++ys)) (jd ho) (ws:=vs++ws) (by rw[←hx,←hy];simp)) fun H1 S1=>?_
 exact k .none _ _ _ H1 S1 h
theorem yY{a:Addr}{vs:List Value}{v:Value}(hr:V a=some (.list (vs++ [v])))(hz:vs.length<1000000)(h:Q v (V.set a (.list vs))):Calls c d (.builtin "list.pop") [.ref a] V Q:=fun rvs e A s Q' E' R H k=>by
 refine be (fE e) fun v0 z1 e1=>?_;subst z1
 obtain rfl:=a6 e1
 obtain⟨xs,⟨n,ho⟩,hx⟩:=H.sim a _ hr
 have h1:=bY hx
 rw[List.length_append,List.length_singleton]at h1
 have hsz:sizeLine=16777216:=sizeLine_eq
 refine be (jc (i:=xs.size -1) hx (v:=v) (by rw[h1,Nat.add_sub_cancel,List.getElem?_append_right (Nat.le_refl _)];simp)) fun u hu z2=>?_;subst z2
 refine Copied.pop_at ho hu (fun h' hs' ho'=>?_) (by lia)
 refine ff (fj H hr hs' (xs:=xs.pop) ⟨_,ho'⟩ (ws:=vs) (by rw[Array.toList_pop,List.map_dropLast,hx,List.dropLast_concat])) fun H1 S1=>?_
 exact k u _ _ _ H1 S1 h
theorem dW{a b:Addr}{vs ws:List Value}(hr:rd V a=some (.list vs))(hb:rd V b=some (.list ws))(hz:vs.length+ws.length<=1000000)(h:∀x,V x=none->Q (.ref x) (V.set x (.list (vs++ws)))):J2 c d (binaryOp .Add) (.ref a) (.ref b) V Q:=fun v w e e' A s Q' E' R H k=>by
 obtain rfl:=a6 e;obtain rfl:=a6 e'
 obtain⟨xs,⟨n,ho⟩,hx⟩:=H.rd hr
 obtain⟨ys,⟨n2,ho2⟩,hy⟩:=H.rd hb
 have h1:=bY hx
 have h2:=bY hy
 have hsz:sizeLine=16777216:=sizeLine_eq
 refine P.add_list ho ho2 ?_ (by lia)
 refine ff (gn H (a:=s.heap.objs.size) (a9 _) (fun b ob e=>Heap.get?_push_of_some _ e) (h':=s.heap.push {cls:= .type "list",data:= .seq (xs++ys)}) (xs:=xs++ys) ⟨0,Heap.get?_push_size _ rfl⟩ (ws:=vs++ws) (by rw[←hx,←hy];simp)) fun H1 S1=>?_
 exact k _ _ _ _ H1 S1 (h _ H.freshSize)
theorem ug{a:Addr}{vs:List Value}(hr:rd V a=some (.list vs)∨rd V a=some (.tup vs))(hz:vs.length<=1000000)(h:∀x,V x=none->Q (.ref x) (V.set x (.list vs))):Calls c d (.type "list") [.ref a] V Q:=fun rvs e A s Q' E' R H k=>by
 refine be (fE e) fun v0 z1 e1=>?_;subst z1
 obtain rfl:=a6 e1
 have hsz:sizeLine=16777216:=sizeLine_eq
 obtain⟨T,o,xs,n,hT,ho,hc,hd,hx⟩:∃T o,∃xs:Array Value,∃n,(T="list"∨T="tuple")/\s.heap.get? a=some o/\o.cls= .type T/\o.data= .seq xs n/\xs.toList.map er=vs:=by
  rcases hr with hr|hr
  ·obtain⟨xs,⟨n,ho⟩,hx⟩:=H.rd hr;exact⟨_,_,xs,n,.inl rfl,ho,rfl,rfl,hx⟩
  ·obtain⟨xs,⟨o,ho,hc,n,hd⟩,hx⟩:=H.rd hr;exact⟨_,_,xs,n,.inr rfl,ho,hc,hd,hx⟩
 refine call_list_seq (hsz:=by rw[bY hx];lia) a hT ho hc hd fun h' c' hk hD=>?_
 refine ff (gn H (a:=s.heap.objs.size) (a9 _) hk (xs:=xs) ⟨c',hD⟩ hx) fun H1 S1=>?_
 exact k _ _ _ _ H1 S1 (h _ H.freshSize)
theorem rV{a:Addr}{vs:List Value}(hr:rd V a=some (.list vs))(hz:vs.length<=1000000)(h:∀x,V x=none->Q (.ref x) (V.set x (.tup vs))):Calls c d (.type "tuple") [.ref a] V Q:=fun rvs e A s Q' E' R H k=>by
 refine be (fE e) fun v0 z1 e1=>?_;subst z1
 obtain rfl:=a6 e1
 have hsz:sizeLine=16777216:=sizeLine_eq
 refine be (H.rd hr) fun xs hl hx=>?_
 refine call_tuple_list hl.isList (fun h' hk=>?_) (by rw[bY hx];lia)
 refine ff (H.extra hk) fun H1 S1=>?_
 refine ff (ud H1 (a:=h'.objs.size) (a9 _) (fun b ob e=>Heap.get?_push_of_some _ e) (h':=h'.push {cls:= .type "tuple",data:= .seq xs}) (xs:=xs) ⟨_,Heap.get?_push_size _ rfl,rfl,_,rfl⟩ hx) fun H2 S2=>?_
 exact k _ _ _ _ H2 (S1.trans S2) (h _ H1.freshSize)
theorem cg{a:Addr}{vs:List Value}(hr:rd V a=some (.list vs)∨rd V a=some (.rlist vs))(hz:vs.length<2^62)(h:Q (.int vs.length 0) V):Calls c d (.builtin "len") [.ref a] V Q:=fun rvs e=>jt.same fun A s Q' E' R H k=>by
 refine be (fE e) fun v0 z1 e1=>?_;subst z1
 obtain rfl:=a6 e1
 obtain⟨xs,hl,hx⟩:∃xs:Array Value,s.heap.IsList a xs/\xs.toList.map er=vs:=by
  rcases hr with hr|hr
  ·obtain⟨xs,hl,hx⟩:=H.rd hr;exact⟨xs,hl.isList,hx⟩
  ·exact H.rd hr
 have h1:=bY hx
 refine call_len_list hl (by lia) ?_
 rw[h1]
 exact k _ _ h
end
theorem rW{vs:List Value}{ys:List Str}(h:vs.map er=ys.map fun y=> .str y 0):StrsAre vs ys:=by
 induction vs generalizing ys with
 |nil=>cases ys with
  |nil=>exact .nil
  |cons _ _=>cases h
 |cons v r ih=>cases ys with
  |nil=>cases h
  |cons y ys=>
   rw[List.map_cons,List.map_cons]at h
   injection h with h1 h2
   refine dP (cO h1) fun t z1=>?_;subst z1
   exact .cons y t (ih h2)
section
variable{c:Cx}{d:Nat}{env:Env}{l:au}{V:St}{p pos:Pos}{Q:Value->St->Prop}{QB:Bool->St->Prop}
theorem BC{a b:Int}(h:Q (.int (if b>a then b else a) 0) V):Calls c d (.builtin "max") [.int a 0,.int b 0] V Q:=fun rvs e A s Q' E' R H k=>by
 refine dl (gm e) fun v w z2 e1 e2=>?_;subst z2
 obtain⟨t,rfl⟩:=cU e1;obtain⟨u,rfl⟩:=cU e2
 refine max_two_ints R.1 fun h' tk hk=>?_
 obtain⟨H1,S1⟩:=H.extra hk
 split<;>rename_i hc
 ·rw[if_pos hc]at h;exact k _ h' tk V H1 S1 h
 ·rw[if_neg hc]at h;exact k _ h' tk V H1 S1 h
theorem hE{a:Int}(h:Q (.int a 0) V):Calls c d (.type "int") [.int a 0] V Q:=fun rvs e=>jt.same fun A s Q' E' R H k=>by
 refine be (fE e) fun v z1 e1=>?_;subst z1
 refine dP (cU e1) fun t z1=>?_;subst z1
 exact call_int_int (k _ s.toks h)
theorem uh{a:Bool}(h:Q (.int (if a then 1 else 0) 0) V):Calls c d (.type "int") [.bool a] V Q:=fun rvs e=>jt.same fun A s Q' E' R H k=>by
 refine be (fE e) fun v z1 e1=>?_;subst z1
 obtain rfl:=gH e1
 exact call_int_bool (k (.int (if a then 1 else 0) s.toks) _ h)
theorem oh{a:Int}(ha:a.natAbs.log2<1920)(h:Q (.str (toString a) 0) V):Calls c d (.type "str") [.int a 0] V Q:=fun rvs e=>jt.same fun A s Q' E' R H k=>by
 refine be (fE e) fun v z1 e1=>?_;subst z1
 refine dP (cU e1) fun t z1=>?_;subst z1
 exact P.str_of_int ha (k (.str (toString a) s.toks) _ h)
theorem BD{x:Str}(hx:x.length=1)(h:Q (.int (x.cps.getD 0 0:Nat) 0) V):Calls c d (.builtin "ord") [.str x 0] V Q:=fun rvs e=>jt.same fun A s Q' E' R H k=>by
 refine be (fE e) fun v z1 e1=>?_;subst z1
 refine dP (cO e1) fun t z1=>?_;subst z1
 exact ord_of_one hx (k _ _ h)
theorem eH{n:Int}(h:∀a,V a=none->Q (.ref a) (V.set a (.range n))):Calls c d (.type "range") [.int n 0] V Q:=fun rvs e A s Q' E' R H k=>by
 refine be (fE e) fun v z1 e1=>?_;subst z1
 refine dP (cU e1) fun t z1=>?_;subst z1
 refine call_range_1 ?_
 refine ff (H.alloc (a:=s.heap.objs.size) (a9 _) (fun b ob e=>Heap.get?_push_of_some _ e) (h':=s.heap.push {cls:= .type "range",data:= .fields #[.int 0 s.toks,.int n t,.int 1 (s.toks+1)]}) (o:= .range n) ⟨_,_,_,Heap.get?_push_size _ rfl⟩) fun H1 S1=>?_
 exact k _ _ _ _ H1 S1 (h _ H.freshSize)
theorem ym{a:Addr}{bs:List Bool}(hr:rd V a=some (.list (bs.map .bool)))(h:Q (.bool (bs.all id)) V):Calls c d (.builtin "all") [.ref a] V Q:=fun rvs e A s Q' E' R H k=>by
 refine be (fE e) fun v z1 e1=>?_;subst z1
 obtain rfl:=a6 e1
 refine be (H.rd hr) fun xs hl hx=>?_
 refine dP (id hl) fun n ho=>?_
 have hsz:=bY hx
 rw[List.length_map]at hsz
 have hlt:a<s.heap.objs.size:=Heap.lt_size ho
 refine call_all_walk (wpAny_pyIter_list hl.isList ?_)
 refine⟨s.heap.objs.size,[s.heap.objs.size,a],[s.heap.objs.size],xs.size,_,_,fun i=>(bs[i]?).getD true,rfl,Walks.list (A:=A.in1) R.1 _ a (Nat.ne_of_lt hlt) xs,
  ⟨⟨_,Heap.get?_push_size _ rfl,rfl,rfl⟩,hl.isList.push _⟩,fun i v s' Q' E' hP hQ=>?_,fun h' tk hk=>?_⟩
 ·have hm:(bs.map Value.bool)[i]? =some (er v):=by rw[←hx,List.getElem?_map,Array.getElem?_toList,hP];rfl
  rw[List.getElem?_map,Option.map_eq_some_iff]at hm
  refine be hm fun b hb e=>?_
  obtain rfl:=gH e.symm
  simp only[hb,Option.getD_some]at hQ
  exact wpAny_truthy_bool hQ
 ·have e:((List.range xs.size).all fun i=>(bs[i]?).getD true)=bs.all id:=by
   rw[hsz];exact LSm.range_all bs
  rw[e]
  have hk':∀b x,s.heap.get? b=some x->h'.get? b=some x:=fun b x e=>hk b x (fun hm=>by rw[List.mem_singleton.mp hm]at e;exact Nat.lt_irrefl _ (Heap.lt_size e)) (Heap.get?_push_of_some _ e)
  refine ff (H.extra hk') fun H1 S1=>?_
  exact k _ h' tk V H1 S1 h
theorem yn{x:Str}{m:Str}{id:String}{QM:Value->List Value->St->Prop}(slot:Slot "str" m id)(ty:typeOf (.builtin id)=pure (.type "method_descriptor"))(h:QM (.builtin id) [.str x 0] V):gT c d m (.str x 0) V QM:=fun v pl e A s Q' E' R H k=>by
 refine dP (cO e) fun t z1=>?_;subst z1
 exact getMethod_builtin (typeIs_str _ _ _) PySem.F.plainAttrs_str slot ty (fun _ e=>nomatch e) (k (.builtin id,[.str x t]) s.heap s.toks V H (.refl ..) h)
theorem oj{x:Str}{QM:Value->List Value->St->Prop}(h:QM (.builtin "str.join") [.str x 0] V):gT c d "join" (.str x 0) V QM:=yn PySem.F.slot_str_join PySem.F.type_str_join h
theorem wj{x:Str}{QM:Value->List Value->St->Prop}(h:QM (.builtin "str.rfind") [.str x 0] V):gT c d "rfind" (.str x 0) V QM:=yn PySem.F.slot_str_rfind PySem.F.type_str_rfind h
theorem wm{x y:Str}(h:Q (.int (Txt.rfind x y) 0) V):Calls c d (.builtin "str.rfind") [.str x 0,.str y 0] V Q:=fun rvs e=>jt.same fun A s Q' E' R H k=>by
 refine dl (gm e) fun v w z2 e1 e2=>?_;subst z2
 obtain⟨t,rfl⟩:=cO e1;obtain⟨u,rfl⟩:=cO e2
 exact SC.rfind (k (.int (Txt.rfind x y) s.toks) _ h)
theorem yZ{x:Str}{a:Addr}{ys:List Str}(hr:rd V a=some (.list (ys.map fun y=> .str y 0)))(hok:(ys.map (·.length)).sum+ys.length*x.length<=16777216)(h:Q (.str (Txt.join x ys) 0) V):
  Calls c d (.builtin "str.join") [.str x 0,.ref a] V Q:=fun rvs e=>jt.same fun A s Q' E' R H k=>by
 refine dl (gm e) fun v w z2 e1 e2=>?_;subst z2
 obtain⟨t,rfl⟩:=cO e1;obtain rfl:=a6 e2
 obtain⟨xs,hl,hx⟩:=H.rd hr
 exact join_list hl.isList (rW hx) hok fun t' tk=>k (.str (Txt.join x ys) t') tk h
theorem ui{v u:Expr}{ps:Pos}{x:Str}{j:Int}(h:E c d env l v V fun y V1=>E c d env l u V1 fun z V2=>y= .str x 0/\z= .int j 0/\x.length<=sizeLine/\Q (.str (Txt.slice x none (some j)) 0) V2)
  (ht:∀o r,letTemporaryGo v o r=pure ()):E c d env l (.Subscript v (.Slice none (some u) none ps) p) V Q:=fun A s Q' E' R H F k=>by
 refine wpAny_Subscript_Slice (T:="str") PySem.F.slot_str_getitem.lookup (h A s _ E' R H F fun o h1 t1 V1 H1 S1 q=>wpAny_Slice (wpAny_pure (q A _ _ E' R H1 (F.after S1) fun z h2 t2 V2 H2 S2 q2=>?_))) ht
 obtain⟨e1,e2,hsz,q2⟩:=q2
 obtain⟨t,rfl⟩:=cO e1;obtain⟨tj,rfl⟩:=cU e2
 rw[evalPart_none]
 obtain⟨H3,S3⟩:=H2.push {cls:= .type "slice",data:= .fields #[.none,.int j tj,.none]}
 refine wpAny_pure ⟨typeIs_str _ x t,wpAny_getItem_str_slice (l:=none) (u:=some (j,tj)) (st:=none) ⟨_,Heap.get?_push_size _ rfl,rfl,rfl⟩ rfl
  (post_val_or_str ⟨Nat.le_trans (Txt.slice_le x _ _) hsz,fun t' tk=>?_⟩)⟩
 exact k (.str (Txt.slice x none (some j)) t') _ _ _ H3 ((S1.trans S2).trans S3) q2
theorem BE{v u:Expr}{ps:Pos}{vs:List Value}{a:Addr}(h:E c d env l v V fun y V1=>E c d env l u V1 fun z V2=>y= .ref a/\z= .int (-1) 0/\rd V2 a=some (.list vs)/\vs.length<=sizeLine/\∀b,V2 b=none->Q (.ref b) (V2.set b (.list vs.reverse)))
  (ht:∀o r,letTemporaryGo v o r=pure ()):E c d env l (.Subscript v (.Slice none none (some u) ps) p) V Q:=fun A s Q' E' R H F k=>by
 refine wpAny_Subscript_Slice_step (T:="list") list_getitem_lookup (h A s _ E' R H F fun o h1 t1 V1 H1 S1 q=>wpAny_Slice (wpAny_pure (wpAny_pure (q A _ _ E' R H1 (F.after S1) fun z h2 t2 V2 H2 S2 q2=>?_)))) ht
 obtain⟨e1,e2,hr,hsz,q2⟩:=q2
 obtain rfl:=a6 e1;obtain⟨tj,rfl⟩:=cU e2
 obtain⟨H3,S3⟩:=H2.push {cls:= .type "slice",data:= .fields #[.none,.none,.int (-1) tj]}
 obtain⟨xs,hl,hx⟩:=H2.rd hr
 refine⟨(hl.isList.push _).typeIs,wpAny_getItem_list_slice (hl.isList.push _) (Heap.IsSliceOf.new ..) .none .none (.int (-1) tj) (by decide) ?_ (by rw[bY hx];exact hsz)⟩
 obtain⟨H4,S4⟩:=gn H3 (a:=(h2.push {cls:= .type "slice",data:= .fields #[.none,.none,.int (-1) tj]}).objs.size) (a9 _) (fun b ob e=>Heap.get?_push_of_some _ e)
  (h':=(h2.push {cls:= .type "slice",data:= .fields #[.none,.none,.int (-1) tj]}).push {cls:= .type "list",data:= .seq (slicePick xs none none (some (-1)))}) (xs:=slicePick xs none none (some (-1))) ⟨0,Heap.get?_push_size _ rfl⟩
  (ws:=vs.reverse) (by rw[krv_pick,←hx];simp)
 exact k _ _ _ _ H4 (((S1.trans S2).trans S3).trans S4) (q2 _ H3.freshSize)
theorem wn{a b e:Expr}{o1 o2:CmpOp}(h:E c d env l a V fun x V1=>E c d env l b V1 fun y V2=>J2 c d (compareOp o1) x y V2 fun r V3=>Tr c d r V3 fun t V4=>
   if t=true then E c d env l e V4 fun z V5=>J2 c d (compareOp o2) y z V5 Q else Q r V4) (hm:lastMarks [o1,o2] [b,e]=false):E c d env l (.Compare a [o1,o2] [b,e] p) V Q:=fun A s Q' E' R H F k=>
 Compare_chain (h A s _ E' R H F fun v h1 t1 V1 H1 S1 q=>chain_link (q A _ _ E' R H1 (F.after S1) fun w h2 t2 V2 H2 S2 q2=>q2 v w rfl rfl A _ _ E' R H2 fun r h3 t3 V3 H3 S3 q3=>
  q3 r rfl A _ _ E' R H3 fun b h4 t4 V4 H4 S4 q4=>by
   cases b with
   |false=>exact k r h4 t4 V4 H4 (S1.trans (S2.trans (S3.trans S4))) q4
   |true=>exact chain_last (q4 A _ _ E' R H4 (F.after (S1.trans (S2.trans (S3.trans S4)))) fun z h5 t5 V5 H5 S5 q5=>q5 w z rfl rfl A _ _ E' R H5 fun r h6 t6 V6 H6 S6 q6=>
     k r h6 t6 V6 H6 ((S1.trans (S2.trans (S3.trans S4))).trans (S5.trans S6)) q6))) hm
end
noncomputable def uj:Value->Bool
 | .ref _=>true
 |_=>false
theorem wo{vs its:List Value}(h:its.all uj=true)(e:vs.map er=its):vs=its:=by
 subst e
 induction vs with
 |nil=>rfl
 |cons v r ih=>
  rw[List.map_cons,List.all_cons,Bool.and_eq_true]at h
  rw[List.map_cons,←ih h.2]
  congr 1
  induction v<;>first|rfl|exact absurd h.1 Bool.false_ne_true
section
variable{c:Cx}{d:Nat}{env:Env}{l:au}{V:St}{p pos:Pos}{Q:Value->St->Prop}{QB:Bool->St->Prop}
theorem kC{C x dx:Addr}{fs:List (Str×Value)}{a:Str}{v:Value}{QS:St->Prop}(hx:rd V x=some (.inst C dx))(hd:V dx=some (.attr fs))
  (hC:iG c.K C) (ha:aI c.K C a=true) (hz:fs.length<=1000) (h:QS (V.set dx (.attr (eW fs a v)))):tS c d (fun o v=>setAttr o a v) (.ref x) v V QS:=fun ro rv e1 e2 A s Q' E' R H k=>by
 obtain rfl:=a6 e1;subst e2
 have X:c.K.In s.heap:=fun b o e=>H.base b o (c.kin b o e)
 obtain⟨es,n,D,q⟩:=H.sim dx _ hd
 have I:W.InstAt s.heap x (instObj C dx) C (some (dictOf es n)):=⟨H.rd hx,rfl,rfl,D⟩
 have hf:findIn c.K (.ref C) a=some none:=by simpa [aI]using ha
 refine set_plain X I hC.set ?_
 refine osa_open (s:={s with toks:=s.toks+1}) (r:=none) X I hC.over (by unfold takerIn;rw[hf];rfl) fun b=>?_
 obtain⟨cd,hc,hd'⟩:=any_some hC.dict
 have hlen:es.length<=1000:=by rw[pL q];exact hz
 have hu:=Heap.get?_update_self (h:=s.heap) (a:=dx) (f:=Obj.putName a (PyData.keyHash c.w.params a) (.str a (s.toks+1)) rv) D (by rw[putName_dict];rfl)
 rw[putName_dict]at hu
 refine wpAny_bind (wpAny_pure (wpAny_bind (wpAny_bind (wpAny_loadPart (H.rd hx) (wpAny_bind (Looks.here (s:={s with toks:=s.toks+1}) (looks_clsIn X hc) ?_))))))
 rw[hd']
 refine wpAny_pure (a:=some dx) (wpAny_bind (wpAny_pure (wpAny_bind ?_)))
 unfold nsSet
 refine wpAny_bind (wpAny_bind (wpAny_askSetting (wpAny_pure (wpAny_bind (wpAny_mkText (wpAny_bind (wpAny_loadPart D ?_)))))))
 dsimp only
 have cc:(!es.toArray.any (·.key.isStr a)&&es.toArray.any (·.refKey))=false:=by
  have h2:=kR q
  simp[h2]
 rw[aRefKeyMayBeTheName_at,cc]
 refine wpAny_updatePart D ?_
 refine wpAny_bind (wpAny_lookBehind hu (pastItsLine_dict (by rw[List.size_toArray,sizeLine_eq];have:=pL (pK q a (PyData.keyHash c.w.params a) (s.toks+1) rv);rw[this];have:=rR fs a (er rv);exact bC this hz)) ?_)
 obtain⟨H1,S1⟩:=H.update (h':=s.heap.update dx (Obj.putName a (PyData.keyHash c.w.params a) (.str a (s.toks+1)) rv)) (o':= .attr (eW fs a (er rv))) hd (fun r e=>by cases e)
  (fun b ob hb e=>by rw[Heap.get?_update_ne _ _ _ _ hb];exact e) ⟨_,_,hu,pK q a _ _ rv⟩
 exact wpAny_pure (k () _ _ _ H1 S1 h)
theorem pS{C x dx:Addr}{o od:Obj}(hC:iG c.K C):KitX c.K (.ref x) (.ref C) (fun h=>W.InstAt h x o C (some od)):=kitx_own (hC.get "__class__") hC.dict hC.cls hC.clsGet hC.takes hC.mro
theorem uk{C x dx D:Addr}{fs:List (Str×Value)}{b:Bool}(hx:rd V x=some (.inst C dx))(hd:rd V dx=some (.attr fs))(hC:iG c.K C)(e:kitOne c.K (.ref C) (.ref D)=some b)(h:Q (.bool b) V):
  Calls c d (.builtin "isinstance") [.ref x,.ref D] V Q:=fun rvs e'=>jt.same fun A s Q' E' R H k=>by
 refine dl (gm e') fun v w z2 e1 e2=>?_;subst z2
 obtain rfl:=a6 e1;obtain rfl:=a6 e2
 refine fM (kz H hx hd) fun es n q I=>?_
 exact kia_one (pS hC (dx:=dx)) (fun b o e=>H.base b o (c.kin b o e)) I e (by intro q;cases q) fun tk=>k _ tk h
theorem sQ{C x dx t:Addr}{fs:List (Str×Value)}{its:List Value}{b:Bool}(hx:rd V x=some (.inst C dx))(hd:rd V dx=some (.attr fs))(hC:iG c.K C)(ht:rd V t=some (.tup its))(hal:its.all uj=true)(e:kitAny c.K (.ref C) its=some b)(h:Q (.bool b) V):
  Calls c d (.builtin "isinstance") [.ref x,.ref t] V Q:=fun rvs e'=>jt.same fun A s Q' E' R H k=>by
 refine dl (gm e') fun v w z2 e1 e2=>?_;subst z2
 obtain rfl:=a6 e1;obtain rfl:=a6 e2
 refine fM (kz H hx hd) fun es n q I=>?_
 obtain⟨xs,⟨⟨cl,dd,da,sl⟩,ho,hc,m,hdd⟩,hxs⟩:=H.rd ht
 dsimp only at hc hdd
 subst hc hdd
 obtain rfl:xs.toList=its:=wo hal hxs
 exact kia_tup (n:=m) (pS hC (dx:=dx)) (fun b o e=>H.base b o (c.kin b o e)) I (by rw[Array.toArray_toList];exact ho) e (by intro q;cases q) fun tk=>k _ tk h
end
section
variable{c:Cx}{d:Nat}{env:Env}{l:au}{V:St}{p pos:Pos}{Q:Value->St->Prop}{QB:Bool->St->Prop}{QF:Fl->au->St->Prop}
theorem sR{a:Addr}{ep:Nat}(hr:rd V a=some (.dict [] ep))(h:∀x,V x=none->Q (.ref x) (V.set x (.list []))):Calls c d (.builtin "sorted") [.ref a] V Q:=fun rvs e A s Q' E' R H k=>by
 obtain⟨v,rfl,e1⟩:=fE e
 obtain rfl:=a6 e1
 obtain⟨hs,m,hm,hm0⟩:=eG H hr
 obtain rfl:m=[]:=List.map_eq_nil_iff.mp hm0
 refine call_function_entry kind_sorted plain_sorted entry_sorted (args_sorted1 _) ?_
 unfold Builtin.«sorted»
 refine wpAny_bind (m:=checkCount "sorted" 1 1 _) (wpAny_pure ?_)
 refine wpAny_bind (kdu_collect (A:=A.in1) (kdl_dict (knd:=strKind c.prog c.w) (kvs:=[]) (ep:=ep) hs) R.1 hm (Nat.zero_le _) fun h' tk acc hk hacc=>?_)
 have hl:acc.toList=[]:=List.length_eq_zero_iff.mp (by rw[Array.length_toList];exact hacc.1)
 rw[hl]
 refine wpAny_bind (wpAny_newList ?_ (by simp))
 obtain⟨H1,S1⟩:=H.extra hk
 have ho:(h'.push (seqObj "list" ([]:List Value).toArray 0)).get? h'.objs.size=some (seqObj "list" ([]:List Value).toArray 0):=Heap.get?_push_size _ rfl
 refine wpAny_bind (wpAny_holding (wpAny_call_entry slot_list_sort ⟨_,ho,rfl⟩ entry_list_sort (list_sort_tree (n:=0) (vs:=[]) ho IntsAre.nil (by decide) fun out ns' hI hp hP=>⟨.none,rfl,?_⟩) (args_list_sort _)))
 obtain⟨n,hc⟩:=sortedHeap_at (vs:=[]) (out:=out) ho
 obtain rfl:ns'=[]:=List.eq_nil_of_length_eq_zero hp.length_eq
 have hout:out.toList=[]:=by cases hI':out.toList with
  |nil=>rfl
  |cons _ _=>rw[hI']at hI;cases hI
 obtain⟨H2,S2⟩:=gn H1 (a:=h'.objs.size) (a9 _) (h':=sortedHeap (h'.push (seqObj "list" ([]:List Value).toArray 0)) h'.objs.size [] out)
  (fun b ob e=>by
   have hb:=Heap.lt_size e
   rw[sortedHeap_old (Nat.ne_of_lt hb) (by rw[Heap.size_push];exact Nat.lt_succ_of_lt hb)]
   exact Heap.get?_push_of_some _ e) (xs:=out) ⟨n,hc⟩ (ws:=[]) (by rw[hout];rfl)
 exact wpAny_pure ⟨_,rfl,k (.ref h'.objs.size) _ tk _ H2 (S1.trans S2) (h _ H1.freshSize)⟩
theorem y0{a:Addr}{vs:List Value}{n:Nat}{k:Int}(hr:rd V a=some (.list vs))(hk:k=n)(hz:vs.length*n<=1000)(hn:n<1000000)(h:∀x,V x=none->Q (.ref x) (V.set x (.list (List.replicate n vs).flatten))):
  J2 c d (binaryOp .Mult) (.ref a) (.int k 0) V Q:=fun v w e e' A s Q' E' R H kk=>by
 obtain rfl:=a6 e;obtain⟨u,rfl⟩:=cU e'
 obtain⟨xs,⟨m,ho⟩,hx⟩:=H.rd hr
 have hsz:=bY hx
 have hkn:k.toNat=n:=by rw[hk];rfl
 have h1: -(2^63:Int)<=k:=by rw[hk];exact Int.le_trans (by decide) (Int.natCast_nonneg n)
 have h2:k<2^63:=by rw[hk];exact Int.ofNat_lt.mpr (Nat.lt_trans hn (by decide:1000000<9223372036854775808))
 have h3:xs.size*k.toNat<=2^24:=by rw[hsz,hkn];lia
 clear hk
 refine wpAny_binaryOp_repeat_ref (T:="list") (U:="int") rfl ⟨_,ho,rfl⟩ (fun s'=>typeIs_int s' k u) noFill_list_mul PySem.F.fills_int_mul PySem.F.slot_int_rmul repeat_list PySem.F.slot_int_index.lookup
  (call_meets PySem.F.slot_int_rmul (typeIs_int s k u) PySem.F.entry_int_rmul (PySem.F.args_int_rmul_2 _ _) (int___rmul___int_list k u a xs m)
   ⟨ho,rfl,⟨_,ho,rfl⟩,call_meets PySem.F.slot_list_mul ⟨_,ho,rfl⟩ PySem.F.entry_list_mul (PySem.F.args_list_mul_2 _ _)
    (AutoListH.list___mul___list_int_3 a xs m k u (by simp[Builtin.List.listFitsIndex];exact⟨h1,h2⟩) (by lia) (by simp[Builtin.List.listTooLong,sizeLine];lia))
    ⟨ho,?_⟩⟩)
 have hfl:∀(k:Nat) (acc:Array Value),(List.foldl (fun x1 x2=>x1++x2) acc (List.replicate k xs)).toList=acc.toList++(List.replicate k xs.toList).flatten:=by
  intro k
  induction k with
  |zero=>intro acc;simp
  |succ k ih=>intro acc;rw[List.replicate_succ,List.foldl_cons,ih,List.replicate_succ,List.flatten_cons];simp
 obtain⟨H1,S1⟩:=gn H (a:=s.heap.objs.size) (a9 _) (fun b ob e=>Heap.get?_push_of_some _ e) (h':=s.heap.push {cls:= .type "list",data:= .seq (List.foldl (fun x1 x2=>x1++x2) #[] (List.replicate (if xs.isEmpty=true then 0 else k.toNat) xs))})
  (xs:=List.foldl (fun x1 x2=>x1++x2) #[] (List.replicate (if xs.isEmpty=true then 0 else k.toNat) xs)) ⟨0,Heap.get?_push_size _ rfl⟩ (ws:=(List.replicate n vs).flatten) (by
   rw[hfl]
   split
   ·rename_i he
    obtain rfl:xs= #[]:=by simpa using he
    subst hx
    simp
   ·rw[hkn,←hx]
    simp[List.map_flatten])
 exact kk _ _ _ _ H1 S1 (h _ H.freshSize)
theorem rX{ke ve:Expr}(h:E c d env l ke V fun kx V1=>E c d env l ve V1 fun vx V2=>∃x,kx= .str x 0/\∀a ep,V2 a=none->Q (.ref a) (V2.set a (.dict [(x,vx)] ep))):E c d env l (.Dict [some ke] [ve] p) V Q:=fun A s Q' E' R H F k=>by
 refine wpAny_Dict_walk (knd:=strKind c.prog c.w) (keys:=[some ke]) (values:=[ve]) rfl rfl (by simp) (by simp) ?_
 refine ff (H.push {cls:= .type "dict",data:= .dict #[]}) fun H0 S0=>?_
 have F0:=F.after S0
 refine wpAny_bind (h A {s with heap:=s.heap.push {cls:= .type "dict",data:= .dict #[]} } _ E' R H0 F0 fun kv h1 t1 V1 H1 S1 q=>wpAny_bind (wpAny_holding (wpAny_bind (q A _ _ E' R H1 (F0.after S1) fun vv h2 t2 V2 H2 S2 q2=>
  wpAny_bind (wpAny_standAt (wpAny_pure (wpAny_bind (wpAny_holding (wpAny_pure (wpAny_pure ?_))))))))))
 obtain⟨x,hx,q2⟩:=q2
 obtain⟨t,rfl⟩:=cO hx
 have S12:=S1.trans S2
 have hu0:V s.heap.objs.size=none:=H.freshSize
 have hd0:(s.heap.push {cls:= .type "dict",data:= .dict #[]}).DictAt (strKind c.prog c.w) s.heap.objs.size [] 0:=iK
 have hkeep:∀o,(s.heap.push {cls:= .type "dict",data:= .dict #[]}).get? s.heap.objs.size=some o->h2.get? s.heap.objs.size=some o:=fun o e=>S12.keep _ o e (.inl hu0) (fun f=>f)
 have hu2:V2 s.heap.objs.size=none:=by obtain⟨o,_,ho,_⟩:=id hd0;exact S12.dom _ o ho hu0
 have hb2:c.base.get? s.heap.objs.size=none:=by
  cases hq:c.base.get? s.heap.objs.size with
  |none=>rfl
  |some o=>have:=H.base _ _ hq;rw[a9]at this;cases this
 refine⟨[(x,vv)],⟨iN x t,rfl,trivial⟩,(hd0.at' hkeep).dictOf,fun h3 hm3 hs3=>?_⟩
 obtain⟨ep,hm3⟩:=hm3.dictAt
 have hk3:∀b o,b≠s.heap.objs.size->h2.get? b=some o->h3.get? b=some o:=fun b o hb e=>by rw[hs3.2 b hb];exact e
 have H3:=H2.off hk3 hu2 hb2
 have S3:=((S0.trans S12).off hk3 (a9 _))
 exact k (.ref s.heap.objs.size) h3 _ _ (H3.enlist (o:= .dict [(x,er vv)] ep) hb2 ⟨v9 H,_,hm3,rfl⟩) (S3.enlist (a9 _) hu2) (q2 _ ep hu2)
theorem sS{o v:Expr}{a:Str}{op:Operator}{pa:Pos}(h:E c d env l o V fun x V0=>J1 c d (fun o=>getAttr o a true) x V0 fun old V1=>E c d env l v V1 fun y V2=>J2 c d (inplaceOp op) old y V2 fun r V3=>
   tS c d (fun o v=>setAttr o a v) x r V3 fun V4=>QF .next l V4):S c d env l (.AugAssign (.Attribute o a pa) op v p) V QF:=fun A s Q' E' R H F k=>
 wpAny_AugAssign_AttributeAny (h A s _ E' R H F fun ov h0 t0 V0 H0 S0 q0=>q0 ov rfl A _ _ E' R H0 fun old h1 t1 V1 H1 S1 q1=>q1 A _ _ E' R H1 (F.after (S0.trans S1)) fun w h2 t2 V2 H2 S2 q2=>
  q2 old w rfl rfl A _ _ E' R H2 fun r h3 t3 V3 H3 S3 q3=>q3 ov r rfl rfl A _ _ E' R H3 fun _ h4 t4 V4 H4 S4 q4=>
   have T:=(((S0.trans S1).trans S2).trans S3).trans S4
   k .next h4 t4 l V4 H4 (T.weaken fun _ f=>f.elim) (F.after T) q4)
theorem ul{t f e:Expr}{body:List Stmt}{pc:Pos}(hf:E c d env l f V fun v V1=>v= .type "reversed"/\E c d env l e V1 fun v V2=>∃a vs,v= .ref a/\rd V2 a=some (.list vs)/\mx c d env t body (.rev a vs.length) 0 l V2 QF)
  (hs:∀x,foldedSetIterable (.Call f [e] [] pc) env x=pure x) (hn:aY e=true) (he:eval (.Call f [e] [] pc) env=(do callWith pc (←eval f env) [] (backTo pc (starEach [e] env)) [])):S c d env l (.For t (.Call f [e] [] pc) body [] p) V QF:=fun A s Q' E' R H F k=>by
 refine wpAny_For ?_ hs
 rw[he]
 refine wpAny_bind (hf A s _ E' R H F fun fv h0 t0 V0 H0 S0 q0=>?_)
 refine ff q0 fun q0 q=>?_
 obtain rfl:=rS q0
 refine PySem.callWith_type (gE (by simp[hn])) (gW (f:= .type "reversed") (QL:=fun vs V2=>∃a ws,vs=[.ref a]/\rd V2 a=some (.list ws)/\mx c d env t body (.rev a ws.length) 0 l V2 QF) (by simp[hn])
  (eF hn (q.mono fun v V2 q2=>cN (by obtain⟨a,vs,rfl,q2⟩:=q2;exact⟨a,vs,rfl,q2⟩))) A _ _ E' R H0 (F.after S0) fun ar h1 t1 V1 H1 S1 q1=>?_)
 obtain⟨ekw,a,ws,ea,hr,q1⟩:=q1
 refine be (fE ea) fun v ev e1=>?_
 obtain rfl:=a6 e1
 rw[ekw]
 show wpAny _ _ (PySem.call (.type "reversed") ([]++ar.pos) []) _ _ _
 rw[ev]
 refine be (H1.rd hr) fun xs hl hx=>?_
 have hsz:=bY hx
 refine call_reversed_list hl.isList ?_
 rw[hsz]
 refine ff (H1.push (revObj a ((ws.length:Int) -1))) fun H2 S2=>?_
 have hX:(h1.push (revObj a ((ws.length:Int) -1))).IsRevIter h1.objs.size a ((ws.length:Int) -1 -(0:Nat)):=⟨_,Heap.get?_push_size _ rfl,rfl,by simp[revObj,rawInt]⟩
 refine wpAny_pyIter_revIter hX ?_
 have S01:=S0.trans S1
 have F1:=F.after S01
 have hno:¬mv env h1.objs.size:=by
  rintro(q| ⟨n,q⟩)
  ·obtain⟨m,⟨oL,_,_,hL,_⟩,_⟩:=F1.ns
   rw[←q,a9]at hL;cases hL
  ·obtain⟨_,_,_,oc,hc⟩:=F1.outC n _ q
   rw[a9]at hc;cases hc
 have hbase:c.base.get? h1.objs.size=none:=by
  cases hq:c.base.get? h1.objs.size with
  |none=>rfl
  |some o=>have:=H1.base _ _ hq;rw[a9]at this;cases this
 exact q1 A _ _ h1.objs.size V1 h1 R H2 (F1.after S2) ⟨Nat.zero_le _,hX⟩ H1.freshSize hbase hno (a9 _) (S2.weaken fun _ f=>f.elim) fun f h3 t3 l3 V3 H3 S3 F3 q3=>
  k f h3 t3 l3 V3 H3 ((S01.weaken fun _ f=>f.elim).trans S3) F3 q3
end
section
variable{c:Cx}{d:Nat}{env:Env}{l:au}{V:St}{p pos:Pos}{Q:Value->St->Prop}{QB:Bool->St->Prop}{QF:Fl->au->St->Prop}
theorem bc.offs{P:Addr->Prop}{V:St}{h h2:Heap}(H:bc c V h)(hk:∀b o,¬P b->h.get? b=some o->h2.get? b=some o)(hn:∀b,P b->V b=none)(hb:∀b,P b->c.base.get? b=none):bc c V h2:=
 ⟨fun a o e=>(H.sim a o e).at fun ob q=>hk a ob (fun hp=>by rw[hn a hp]at e;cases e) q,fun b o e=>hk b o (fun hp=>by rw[hb b hp]at e;cases e) (H.base b o e),H.apart⟩
theorem aW.offs{P:Addr->Prop}{V:St}{h h2:Heap}(F:aW c env l V h)(hk:∀b o,¬P b->h.get? b=some o->h2.get? b=some o)(hn:∀b,P b->¬mv env b):aW c env l V h2:=by
 refine be F.ns fun m hm hl=>?_
 refine⟨F.kind,F.glob,F.blt,⟨m,hm.at' fun o e=>hk _ o (fun q=>hn _ q (.inl rfl)) e,hl⟩,fun x hx=>?_,F.capart,F.outL,fun n a hm'=>?_⟩
 ·obtain⟨a,v,e,⟨o,ho,hd⟩,q⟩:=F.cell x hx
  exact⟨a,v,e,⟨o,hk a o (fun q=>hn _ q (.inr ⟨x,mem_of_lookup e⟩)) ho,hd⟩,q⟩
 ·obtain⟨p1,p2,p3,o,ho⟩:=F.outC n a hm'
  exact⟨p1,p2,p3,o,hk a o (fun q=>hn _ q (.inr ⟨n,hm'⟩)) ho⟩
structure sT where
 z:Addr
 TI:Addr
 TO:Addr
 i1:Addr
 i2:Addr
def sT.has(f:sT)(b:Addr):Prop:=b=f.z∨b=f.TI∨b=f.TO∨b=f.i1∨b=f.i2
structure lg(h:Heap)(f:sT)(l1 l2:Addr)(k:Nat):Prop where
 ap:ZipApart f.z f.TI f.TO f.i1 f.i2 l1 l2
 zip:IsZip h f.z f.TI f.TO .none
 ti:IsPair h f.TI (.ref f.i1) (.ref f.i2)
 to:∃a b,IsPair h f.TO a b
 p1:h.IsListIter f.i1 l1 k
 p2:h.IsListIter f.i2 l2 k
theorem lg.at{h h':Heap}{f:sT}{l1 l2:Addr}{k:Nat}(x:lg h f l1 l2 k)(e:∀b o,f.has b->h.get? b=some o->h'.get? b=some o):lg h' f l1 l2 k:=by
 obtain⟨ap,z,ti,⟨a,b,to⟩,⟨o1,p1,r1⟩,⟨o2,p2,r2⟩⟩:=x
 exact⟨ap,e _ _ (.inl rfl) z,e _ _ (.inr (.inl rfl)) ti,⟨a,b,e _ _ (.inr (.inr (.inl rfl))) to⟩,⟨o1,e _ _ (.inr (.inr (.inr (.inl rfl)))) p1,r1⟩,⟨o2,e _ _ (.inr (.inr (.inr (.inr rfl)))) p2,r2⟩⟩
theorem lg.live{h:Heap}{f:sT}{l1 l2:Addr}{k:Nat}(x:lg h f l1 l2 k):∀b,f.has b->∃o,h.get? b=some o:=by
 obtain⟨ap,z,ti,⟨a,b,to⟩,⟨o1,p1,r1⟩,⟨o2,p2,r2⟩⟩:=x
 rintro b (rfl|rfl|rfl|rfl|rfl)
 ·exact⟨_,z⟩
 ·exact⟨_,ti⟩
 ·exact⟨_,to⟩
 ·exact⟨_,p1⟩
 ·exact⟨_,p2⟩
def sU(c:Cx)(d:Nat)(env:Env)(t:Expr)(body:List Stmt)(l1 l2:Addr)(k:Nat)(l:au)(V:St)(QF:Fl->au->St->Prop):Prop:=
 ∀(A:Around) (s:Shared) (R':Result->Shared->Prop) (f:sT) (V₀:St) (h₀:Heap),gD A d->bc c V s.heap->aW c env l V s.heap->
  lg s.heap f l1 l2 k->(∀b,f.has b->we c env V h₀ b)->bM (mv env) V₀ h₀ V s.heap->
  (∀fl h' tk l' V',bc c V' h'->bM (mv env) V₀ h₀ V' h'->aW c env l' V' h'->QF (Bk fl) l' V'->R' (.ok fl) {s with heap:=h',toks:=tk})->
  codeAny (model c.prog c.w) A (.forLoop t (.ref f.z) body [] env) R' s
theorem pT{ts:List Expr}{kt:Nat}{pt:Pos}{body:List Stmt}{a1 a2:Addr}{k:Nat}{xs ys:List Value}(h1:rd V a1=some (.list xs))(h2:rd V a2=some (.list ys))(hst:ts.all aY=true)(hlen:ts.length=2)
  (h:match xs[k]?,ys[k]? with
   |some x,some y=>kc c d env l ts [x,y] V fun l1 V1=>SS c d env l1 body V1 fun f l2 V2=>match f with
    | .next=>sU c d env (.Tuple ts kt pt) body a1 a2 (k+1) l2 V2 QF
    | .ret w=>QF (.ret w) l2 V2
    | .other=>False
   |_,_=>QF .next l V):sU c d env (.Tuple ts kt pt) body a1 a2 k l V QF:=fun A s R' f V₀ h₀ R H F X O S₀ kk=>by
 refine be (H.rd h1) fun us eK hx=>?_
 refine be (H.rd h2) fun vs fZ hy=>?_
 have offs:∀{h':Heap},(∀b o,b≠f.z->b≠f.TO->b≠f.i1->b≠f.i2->s.heap.get? b=some o->h'.get? b=some o)->bc c V h'/\aW c env l V h'/\(∀b o,¬f.has b->s.heap.get? b=some o->h'.get? b=some o):=fun{h'} hk=>by
  have hk':∀b o,¬f.has b->s.heap.get? b=some o->h'.get? b=some o:=fun b o hn e=>
   hk b o (fun q=>hn (.inl q)) (fun q=>hn (.inr (.inr (.inl q)))) (fun q=>hn (.inr (.inr (.inr (.inl q))))) (fun q=>hn (.inr (.inr (.inr (.inr q))))) e
  exact⟨H.offs hk' (fun b hb=>(O b hb).un) (fun b hb=>(O b hb).base),F.offs hk' (fun b hb=>(O b hb).own),hk'⟩
 have stepOff:∀{h':Heap},(∀b o,¬f.has b->s.heap.get? b=some o->h'.get? b=some o)->bM (mv env) V₀ h₀ V h':=fun{h'} hk'=>by
  have ne:∀b o,h₀.get? b=some o->¬f.has b:=fun b o e q=>by rw[(O b q).old]at e;cases e
  exact⟨fun b o e q nx=>hk' b o (ne b o e) (S₀.keep b o e q nx),S₀.dom,fun b o e=>let ⟨o',e'⟩:=S₀.live b o e;⟨o',hk' b o' (ne b o e) e'⟩,S₀.ro⟩
 refine codeAny_of_tree ?_
 show wpAny _ A ((forTurn (.Tuple ts kt pt) (.ref f.z) body [] env).onRaise (fun x=>do noteFrame x env;theTreesLotGoes x)) _ _ s
 refine wpAny_noted ?_
 unfold forTurn
 refine CA X.to fun ta tb hto=>?_
 have gx:xs[k]? =(us[k]?).map er:=by rw[←hx,List.getElem?_map,Array.getElem?_toList]
 have gy:ys[k]? =(vs[k]?).map er:=by rw[←hy,List.getElem?_map,Array.getElem?_toList]
 rw[gx,gy]at h
 by_cases hend:us[k]? =none∨vs[k]? =none
 ·have hq:QF .next l V:=by
   rcases hend with q|q
   ·rw[q]at h;exact h
   ·rw[q]at h
    induction hu:us[k]? with
    |none=>rw[hu]at h;exact h
    |some u=>rw[hu]at h;exact h
  refine wpAny_bind (wpAny_standAt (wpAny_bind (wpAny_onRaise (wpAny_pyNext_zip_end R.1 X.ap X.zip X.ti hto X.p1 X.p2 eK.isList fZ.isList hend fun h' hk=>?_))))
  refine nT (offs hk) fun H1 F1 hk'=>?_
  exact wpAny_pure ⟨rfl,codeAny_block (wpAny_execs_nil (kk .next h' s.toks l V H1 (stepOff hk') F1 hq))⟩
 ·induction hu:us[k]? with
  |none=>exact absurd (.inl hu) hend
  |some u=>
  induction hv:vs[k]? with
  |none=>exact absurd (.inr hv) hend
  |some v=>
   rw[hu,hv]at h
   replace h:kc c d env l ts [er u,er v] V _:=h
   refine wpAny_bind (wpAny_standAt (wpAny_bind (wpAny_onRaise (wpAny_pyNext_zip_item X.ap X.zip X.ti hto X.p1 X.p2 eK.isList fZ.isList hu hv fun h' hz' hto' hp1 hp2 hT hsz hk=>?_))))
   refine nT (offs hk) fun H1 F1 hk'=>?_
   refine wpAny_bind (wpAny_letOwnedTupleGo_zip hz' fun h'' hz'' hs''=>?_)
   have hti':IsPair h' f.TI (.ref f.i1) (.ref f.i2):=hk f.TI _ X.ap.TIz X.ap.TITO X.ap.TIi1 X.ap.TIi2 X.ti
   have hk2:∀b o,b≠f.z->h'.get? b=some o->h''.get? b=some o:=fun b o hb e=>by rw[hs''.2 b hb];exact e
   have hk2':∀b o,¬f.has b->s.heap.get? b=some o->h''.get? b=some o:=fun b o hb e=>hk2 b o (fun q=>hb (.inl q)) (hk' b o hb e)
   have H2:bc c V h'':=H.offs hk2' (fun b hb=>(O b hb).un) (fun b hb=>(O b hb).base)
   have F2:=F.offs hk2' (fun b hb=>(O b hb).own)
   have S2:=stepOff hk2'
   have hTne:s.heap.objs.size≠f.z:=fun q=>by have:=Heap.lt_size X.zip;rw[←q]at this;exact absurd this (Nat.lt_irrefl _)
   have hT2:IsPair h'' s.heap.objs.size u v:=hk2 _ _ hTne hT
   have X2:lg h'' f a1 a2 (k+1):=⟨X.ap,hz'',hk2 _ _ X.ap.TIz hti',⟨u,v,hk2 _ _ X.ap.TOz hto'⟩,
    (let ⟨o,e,r⟩:=hp1;⟨o,hk2 _ _ X.ap.i1z e,r⟩),(let ⟨o,e,r⟩:=hp2;⟨o,hk2 _ _ X.ap.i2z e,r⟩)⟩
   refine wpAny_bind (wpAny_assign_Tuple (items:= #[u,v]) R.1 ⟨_,hT2,rfl,_,rfl⟩ (by rw[dR hst,hlen];rfl) (eY hst) fun h3 hk3=>?_)
   have hk3':∀b o,h''.get? b=some o->h3.get? b=some o:=fun b o e=>hk3 b o (Nat.ne_of_lt (Heap.lt_size e)) e
   refine ff (H2.extra hk3') fun H3 S3=>?_
   have F3:=F2.after S3
   have X3:=X2.at fun b o _ e=>hk3' b o e
   refine iX (c:=c) (d:=d) (l:=l) (V:=V) (ts:=ts) (rvs:=[u,v]) hst h A {s with heap:=h3} _ _ R H3 F3 fun _ h4 t4 l4 V4 H4 S4 F4 q4=>wpAny_bind (q4 A _ _ _ R H4 F4 fun fl h5 t5 l5 V5 H5 S5 F5 q5=>?_)
   have S45:=S4.trans S5
   have S15:=(S2.trans (S3.weaken fun _ f=>f.elim)).trans S45
   have keepF:∀b o,f.has b->h3.get? b=some o->h5.get? b=some o:=fun b o hb e=>S45.keep b o e (.inl (O b hb).un) (O b hb).own
   induction fl with
   |next=>exact wpAny_pure ⟨rfl,q5 A _ R' f V₀ h₀ R H5 F5 (X3.at keepF) (fun b hb=>⟨by obtain⟨o,e⟩:=X3.live b hb;exact S45.dom b o e (O b hb).un,(O b hb).base,(O b hb).own,(O b hb).old⟩) S15
     fun fl h6 t6 l6 V6 H6 S6 F6 q6=>kk fl h6 t6 l6 V6 H6 S6 F6 q6⟩
   |cont=>exact q5.elim
   |brk=>exact q5.elim
   |ret w=>exact wpAny_pure (kk (.ret w) h5 t5 l5 V5 H5 S15 F5 q5)
theorem um{t f e1 e2:Expr}{body:List Stmt}{pc:Pos}(hf:E c d env l f V fun v V1=>v= .type "zip"/\E c d env l e1 V1 fun v V2=>E c d env l e2 V2 fun w V3=>∃a b xs ys,v= .ref a/\w= .ref b/\rd V3 a=some (.list xs)/\rd V3 b=some (.list ys)/\sU c d env t body a b 0 l V3 QF)
  (hs:∀x,foldedSetIterable (.Call f [e1,e2] [] pc) env x=pure x) (hn:aY e1=true) (hn2:aY e2=true) (he:eval (.Call f [e1,e2] [] pc) env=(do callWith pc (←eval f env) [] (backTo pc (starEach [e1,e2] env)) [])):
  S c d env l (.For t (.Call f [e1,e2] [] pc) body [] p) V QF:=fun A s Q' E' R H F k=>by
 refine wpAny_For ?_ hs
 rw[he]
 refine wpAny_bind (hf A s _ E' R H F fun fv h0 t0 V0 H0 S0 q0=>?_)
 refine ff q0 fun q0 q=>?_
 obtain rfl:=rS q0
 refine PySem.callWith_type (gE (by simp[hn,hn2])) (gW (f:= .type "zip") (QL:=fun vs V3=>∃a b xs ys,vs=[.ref a,.ref b]/\rd V3 a=some (.list xs)/\rd V3 b=some (.list ys)/\sU c d env t body a b 0 l V3 QF) (by simp[hn,hn2])
  (eF hn (q.mono fun v V2 q2=>eF hn2 (q2.mono fun w V3 q3=>cN (by obtain⟨a,b,xs,ys,rfl,rfl,q3⟩:=q3;exact⟨a,b,xs,ys,rfl,q3⟩)))) A _ _ E' R H0 (F.after S0) fun ar h1 t1 V1 H1 S1 q1=>?_)
 obtain⟨ekw,a,b,xs,ys,ea,hra,hrb,q1⟩:=q1
 refine dl (gm ea) fun v w ev e1' e2'=>?_
 obtain rfl:=a6 e1';obtain rfl:=a6 e2'
 rw[ekw]
 show wpAny _ _ (PySem.call (.type "zip") ([]++ar.pos) []) _ _ _
 rw[ev]
 refine be (H1.rd hra) fun us eK hx=>?_
 refine be (H1.rd hrb) fun vs fZ hy=>?_
 refine call_zip_2 eK.isList fZ.isList fun h2 hz hti hto hp1 hp2 hsz hk=>?_
 refine wpAny_pyIter_zip hz ?_
 refine ff (H1.extra hk) fun H2 S2=>?_
 have S01:=S0.trans S1
 have F1:=F.after S01
 have lt1:a<h1.objs.size:=let ⟨_,e⟩:=eK;Heap.lt_size e
 have lt2:b<h1.objs.size:=let ⟨_,e⟩:=fZ;Heap.lt_size e
 have fresh:∀x,h1.objs.size<=x->h1.get? x=none:=fun x hx=>by
  induction e:h1.get? x with
  |none=>rfl
  |some o=>exact absurd (Heap.lt_size e) (Nat.not_lt.mpr hx)
 have off:∀x,h1.objs.size<=x->we c env V1 h1 x:=fun x hx=>by
  refine⟨H1.fresh (fresh x hx),?_,?_,fresh x hx⟩
  ·induction hq:c.base.get? x with
   |none=>rfl
   |some o=>have:=H1.base _ _ hq;rw[fresh x hx]at this;cases this
  ·rintro(q| ⟨n,q⟩)
   ·obtain⟨m,⟨oL,_,_,hL,_⟩,_⟩:=F1.ns
    rw[←q,fresh x hx]at hL;cases hL
   ·obtain⟨_,_,_,oc,hc⟩:=F1.outC n _ q
    rw[fresh x hx]at hc;cases hc
 have ne:∀(i j:Nat),i≠j->h1.objs.size+i≠h1.objs.size+j:=fun i j hij q=>hij (Nat.add_left_cancel q)
 have nl:∀(x:Addr) (i:Nat),x<h1.objs.size->x≠h1.objs.size+i:=fun x i hx=>Nat.ne_of_lt (Nat.lt_of_lt_of_le hx (Nat.le_add_right _ _))
 refine q1 A _ _ ⟨h1.objs.size+4,h1.objs.size+2,h1.objs.size+3,h1.objs.size,h1.objs.size+1⟩ V1 h1 R H2 (F1.after S2)
  ⟨⟨ne 2 4 (by decide),ne 3 4 (by decide),ne 0 4 (by decide),ne 1 4 (by decide),ne 2 3 (by decide),ne 2 0 (by decide),ne 2 1 (by decide),ne 3 0 (by decide),ne 3 1 (by decide),ne 0 1 (by decide),
    nl a 4 lt1,nl a 3 lt1,nl a 0 lt1,nl a 1 lt1,nl b 4 lt2,nl b 3 lt2,nl b 0 lt2,nl b 1 lt2⟩,hz,hti,⟨_,_,hto⟩,hp1,hp2⟩ ?_ (S2.weaken fun _ f=>f.elim) fun f h3 t3 l3 V3 H3 S3 F3 q3=>
  k f h3 t3 l3 V3 H3 ((S01.weaken fun _ f=>f.elim).trans S3) F3 q3
 rintro x (rfl|rfl|rfl|rfl|rfl)
 ·exact off _ (Nat.le_add_right _ _)
 ·exact off _ (Nat.le_add_right _ _)
 ·exact off _ (Nat.le_add_right _ _)
 ·exact off _ (Nat.le_refl _)
 ·exact off _ (Nat.le_add_right _ _)
end
structure aQ(env:Env)(ns:List (Str×NameKind)):Prop where
 loc:∀x,ns.lookup x=some .local->env.kindOf x=some .local
 cel:∀x,ns.lookup x=some .cell->env.kindOf x=some .cell
 fre:∀x,ns.lookup x=some .free->env.kindOf x=some .cell∨env.kindOf x=some .free
 glo:∀x,ns.lookup x=some .globalImplicit->env.kindOf x=some .globalImplicit
theorem aQ.of{env:Env}{ns:List (Str×NameKind)}(h:∀x,env.kindOf x=ns.lookup x):aQ env ns:=
 ⟨fun x e=>(h x).trans e,fun x e=>(h x).trans e,fun x e=> .inr ((h x).trans e),fun x e=>(h x).trans e⟩
theorem aQ.comp{env cenv:Env}{scope:Scope}(h:∀x,cenv.kindOf x=(relabel scope env).names.lookup x):aQ cenv scope.names:=by
 refine⟨fun x e=>?_,fun x e=>?_,fun x e=>?_,fun x e=>?_⟩<;>rw[h,fC,e]
 ·rfl
 ·rfl
 ·dsimp only[Option.map_some]
  split
  ·exact .inl rfl
  ·exact .inr rfl
 ·rfl
noncomputable def Co:Option NameKind->Bool
 |some .local=>true
 |some .cell=>true
 |some .free=>true
 |_=>false
noncomputable def rY:Option NameKind->Bool
 |some .local=>true
 |some .cell=>true
 |_=>false
theorem aQ.l{env:Env}{ns:List (Str×NameKind)}(K:aQ env ns){x:Str}(h:Co (ns.lookup x)=true):env.kindOf x=some .local∨env.kindOf x=some .cell∨env.kindOf x=some .free:=by
 induction e:ns.lookup x with
 |none=>rw[e]at h;cases h
 |some k=>
  rw[e]at h
  induction k<;>first|exact .inl (K.loc x e) |exact .inr (.inl (K.cel x e)) |exact .inr (K.fre x e) |cases h
theorem aQ.s{env:Env}{ns:List (Str×NameKind)}(K:aQ env ns){x:Str}(h:rY (ns.lookup x)=true):env.kindOf x=some .local∨env.kindOf x=some .cell:=by
 induction e:ns.lookup x with
 |none=>rw[e]at h;cases h
 |some k=>
  rw[e]at h
  induction k<;>first|exact .inl (K.loc x e) |exact .inr (K.cel x e) |cases h
noncomputable def bk(x:Str):Bool:= !(x==("__classdict__":Str))&& !(x==("__debug__":Str))&& !(x==("__name__":Str))
theorem bk.of{x:Str}(h:bk x=true):(x==("__classdict__":Str))=false/\(x==("__debug__":Str))=false/\x≠"__name__":=by
 unfold bk at h
 simp only[Bool.and_eq_true,Bool.not_eq_true']at h
 refine⟨h.1.1,h.1.2,?_⟩
 rintro rfl
 have:=h.2
 simp at this
noncomputable def je(K:Frag)(fd:FuncData)(ps:List Str):Bool:=
 codeIn K fd.code fd.qualname&& !fd.scope.isCoroutine&& !fd.scope.isGenerator&&fd.scope.kind== .function&&fd.closure.isEmpty&&decide (fd.globals=mainGlobals)&&decide (fd.builtins=builtinsNs)&&
 decide ps.Nodup&&ps.all (fun x=>rY (fd.scope.names.lookup x))&&fd.scope.names.all (fun p=>p.2 != .free)&&decide ((cellsFrom 0 fd.scope.names []).map (·.1)).Nodup
theorem jZ{ns:List (Str×NameKind)}{x:Str}{k:NameKind}(h:ns.lookup x=some k):(x,k)∈ns:=by
 induction ns with
 |nil=>cases h
 |cons p r ih=>
  obtain⟨n,q⟩:=p
  rw[List.lookup_cons]at h
  by_cases e:x=n
  ·subst e;simp at h;subst h;exact List.mem_cons_self
  ·have:(x==n)=false:=by simpa using e
   rw[this]at h;exact List.mem_cons_of_mem _ (ih h)
theorem yQ.of{K:Frag}{fd:FuncData}{ps:List Str}{body:List Stmt}(hb:fd.body= .stmts body)(h:je K fd ps=true):yQ K fd ps body:=by
 unfold je at h
 simp only[Bool.and_eq_true,Bool.not_eq_true',decide_eq_true_eq,beq_iff_eq,List.isEmpty_iff]at h
 obtain⟨⟨⟨⟨⟨⟨⟨⟨⟨⟨h1,h2⟩,h3⟩,h4⟩,h5⟩,h6⟩,h7⟩,h8⟩,h9⟩,h10⟩,h11⟩:=h
 refine⟨hb,h5,h1,h2,h3,h4,h6,h7,h8,fun x hx=>?_,fun x hx=>?_,h11⟩
 ·have:=List.all_eq_true.mp h9 x hx
  induction e:fd.scope.names.lookup x with
  |none=>rw[e]at this;cases this
  |some k=>rw[e]at this;induction k<;>first|exact .inl rfl|exact .inr rfl|cases this
 ·have:=List.all_eq_true.mp h10 _ (jZ hx)
  simp at this
section
variable{c:Cx}{d:Nat}{env:Env}{l:au}{V:St}{p pos:Pos}{Q:Value->St->Prop}{QB:Bool->St->Prop}{QF:Fl->au->St->Prop}{QL:au->St->Prop}{ns:List (Str×NameKind)}
theorem BF{x:Str}{v:Value}(K:aQ env ns)(hk:Co (ns.lookup x)=true)(hp:bk x=true)(hv:l.lookup x=some v)(h:Q v V):E c d env l (.Name x p) V Q:=
 Bn (K.l hk) hv h (bk.of hp).1 (bk.of hp).2.1
theorem BG{x:Str}{v:Value}(K:aQ env ns)(hk:ns.lookup x=some .globalImplicit)(hp:bk x=true)(hv:nsIn c.K mainGlobals x=some (some v))(h:Q (er v) V):E c d env l (.Name x p) V Q:=
 yI (K.glo x hk) hv h (bk.of hp).2.1
theorem BH{x:Str}{v:Value}(K:aQ env ns)(hk:ns.lookup x=some .globalImplicit)(hp:bk x=true)(hn:nsIn c.K mainGlobals x=some none)(hv:bootBuiltins x=some v)(h:Q (er v) V):E c d env l (.Name x p) V Q:=
 Bo (K.glo x hk) hn hv (bk.of hp).2.2 h (bk.of hp).2.1
theorem ol{x:Str}{v:Value}(K:aQ env ns)(hk:rY (ns.lookup x)=true)(h:QL (eW l x v) V):nY c d env l (.Name x p) v V QL:=kJ (K.s hk) h
theorem uo{x:Str}{v:Value}(K:aQ env ns)(hk:ns.lookup x=some .local)(h:QL (eW l x v) V):kL c d env l (.Name x p) v V QL:=sL (K.loc x hk) h
noncomputable def di(ns:List (Str×NameKind))(scope:Scope):Bool:=
 scope.kind== .function&&scope.names.all (fun p=>p.2 != .cell)&&decide (scope.names.map (·.1)).Nodup&&scope.names.all (fun p=>p.2 != .free||(ns.lookup p.1==some .cell||ns.lookup p.1==some .free))
theorem di.of{scope:Scope}(K:aQ env ns)(h:di ns scope=true):kO env scope:=by
 unfold di at h
 simp only[Bool.and_eq_true,decide_eq_true_eq,beq_iff_eq]at h
 obtain⟨⟨⟨h1,h2⟩,h3⟩,h4⟩:=h
 refine⟨h1,fun y hy=>by simpa using List.all_eq_true.mp h2 y hy,h3,fun x hx=>?_⟩
 have:=List.all_eq_true.mp h4 _ (jZ hx)
 simp only[bne_self_eq_false,Bool.false_or,Bool.or_eq_true,beq_iff_eq]at this
 rcases this with e|e
 ·exact .inl (K.cel x e)
 ·exact K.fre x e
theorem rZ{e t iter:Expr}{ifs:List Expr}{scope:Scope}(K:aQ env ns)(hc:di ns scope=true)(hs:∀x,foldedSetIterable iter env x=pure x)
  (h:E c d env l iter V fun v V1=>∃src,dG V1 v=some src/\∀cenv:Env,aQ cenv scope.names->eL c d cenv (.lst e) t iter ifs scope p src 0 (.l []) (sN scope.names l) V1 fun acc V2=>∀a,V2 a=none->gG acc a V2 Q):
  E c d env l (.ListComp e [⟨t,iter,ifs,0⟩] scope p) V Q:=
 tX (ck:= .lst e) (di.of K hc) hs (h.mono fun v V1 q=>let ⟨src,e1,q⟩:=q;⟨src,e1,fun cenv hk=>q cenv (.comp hk)⟩)
theorem wp{ke ve t iter:Expr}{ifs:List Expr}{scope:Scope}(K:aQ env ns)(hc:di ns scope=true)(hs:∀x,foldedSetIterable iter env x=pure x)
  (h:E c d env l iter V fun v V1=>∃src,dG V1 v=some src/\∀cenv:Env,aQ cenv scope.names->eL c d cenv (.dct ke ve) t iter ifs scope p src 0 (.d []) (sN scope.names l) V1 fun acc V2=>∀a,V2 a=none->gG acc a V2 Q):
  E c d env l (.DictComp ke ve [⟨t,iter,ifs,0⟩] scope p) V Q:=
 tX (ck:= .dct ke ve) (di.of K hc) hs (h.mono fun v V1 q=>let ⟨src,e1,q⟩:=q;⟨src,e1,fun cenv hk=>q cenv (.comp hk)⟩)
theorem pU{ck:CK}{t iter:Expr}{ifs:List Expr}{scope:Scope}{y:Str}{py p:Pos}{ln:Nat}(hk:env.scope.kind= .function)(hy:env.kindOf y=some .local)
  (h:(py.line==p.line&& !(scope.names.any fun(n,k)=>n==y&&(k== .local||k== .cell)))=true):swapsWith (ck.expr [⟨t,iter,ifs,0⟩] scope p) (some (.Name y py)) ln env=pure true:=by
 have hb:env.blockKind= .function:=by unfold Env.blockKind;rw[hk];rfl
 rw[Bool.and_eq_true]at h
 induction ck with
 |lst e=>
  show(pure (env.blockKind== .function&&env.kindOf y==some .local&&py.line==p.line&& !(scope.names.any fun(n,k)=>n==y&&(k== .local||k== .cell))):Sem Bool)=_
  rw[hb,hy,h.1,h.2];rfl
 |dct ke ve=>
  show(pure (env.blockKind== .function&&env.kindOf y==some .local&&py.line==p.line&& !(scope.names.any fun(n,k)=>n==y&&(k== .local||k== .cell))):Sem Bool)=_
  rw[hb,hy,h.1,h.2];rfl
theorem r7{e t iter:Expr}{ifs:List Expr}{scope:Scope}{y:Str}{py sp:Pos}(K:aQ env ns)(hy:rY (ns.lookup y)=true)(hc:di ns scope=true)(hs:∀x,foldedSetIterable iter env x=pure x)
  (hy':ns.lookup y=some .local) (hsw:(py.line==p.line&& !(scope.names.any fun(n,k)=>n==y&&(k== .local||k== .cell)))=true)
  (h:E c d env l iter V fun v V1=>∃src,dG V1 v=some src/\∀cenv:Env,aQ cenv scope.names->eL c d cenv (.lst e) t iter ifs scope p src 0 (.l []) (sN scope.names l) V1 fun acc V2=>∀a,V2 a=none->gG acc a V2 fun v V3=>QF .next (eW l y v) V3):
  S c d env l (.Assign [.Name y py] (.ListComp e [⟨t,iter,ifs,0⟩] scope p) sp) V QF:=
 tY (ck:= .lst e) (di.of K hc) hs (fun hk=>pU (ck:= .lst e) hk (K.loc _ hy') hsw) (K.s hy) (h.mono fun v V1 q=>let ⟨src,e1,q⟩:=q;⟨src,e1,fun cenv hk=>q cenv (.comp hk)⟩)
theorem wq{ke ve t iter:Expr}{ifs:List Expr}{scope:Scope}{y:Str}{py sp:Pos}(K:aQ env ns)(hy:rY (ns.lookup y)=true)(hc:di ns scope=true)(hs:∀x,foldedSetIterable iter env x=pure x)
  (hy':ns.lookup y=some .local) (hsw:(py.line==p.line&& !(scope.names.any fun(n,k)=>n==y&&(k== .local||k== .cell)))=true)
  (h:E c d env l iter V fun v V1=>∃src,dG V1 v=some src/\∀cenv:Env,aQ cenv scope.names->eL c d cenv (.dct ke ve) t iter ifs scope p src 0 (.d []) (sN scope.names l) V1 fun acc V2=>∀a,V2 a=none->gG acc a V2 fun v V3=>QF .next (eW l y v) V3):
  S c d env l (.Assign [.Name y py] (.DictComp ke ve [⟨t,iter,ifs,0⟩] scope p) sp) V QF:=
 tY (ck:= .dct ke ve) (di.of K hc) hs (fun hk=>pU (ck:= .dct ke ve) hk (K.loc _ hy') hsw) (K.s hy) (h.mono fun v V1 q=>let ⟨src,e1,q⟩:=q;⟨src,e1,fun cenv hk=>q cenv (.comp hk)⟩)
noncomputable def lh(ns:List (Str×NameKind))(x y:Str)(px py:Pos)(a b:Expr):Bool:=
 !(x==y)&&aY a&&aY b&&rY (ns.lookup x)&&rY (ns.lookup y)&&
 (!(ns.lookup x==some .local&&ns.lookup y==some .local&&py.line==px.line)||(foldedForSure 8 a&&foldedForSure 8 b)|| !(constantsAlone 8 a&&constantsAlone 8 b))
theorem BI{α:Type}{P:α->Prop}{q:Prop}[Decidable q]{a b:α}(ha:q->P a)(hb:¬q->P b):P (if q then a else b):=by
 by_cases h:q
 ·rw[if_pos h];exact ha h
 ·rw[if_neg h];exact hb h
theorem Dq{α β:Type}{g:α->Option β}{e1 e2:α}{x y:β}{c1 c2:Bool}(h1:g e1=if c1=true then some x else none)(h2:g e2=if c2=true then some y else none)(hl:(List.filterMap g [e1,e2]).length=2):List.filterMap g [e1,e2]=[x,y]/\c1=true/\c2=true:=by
 induction c1 with
 |false=>rw[List.filterMap_cons_none h1]at hl;exact absurd (hl▸List.length_filterMap_le g [e2]:2<=1) (by decide)
 |true=>induction c2 with
  |false=>rw[List.filterMap_cons_some h1,List.filterMap_cons_none h2]at hl;cases hl
  |true=>exact⟨by rw[List.filterMap_cons_some h1,List.filterMap_cons_some h2];rfl,rfl,rfl⟩
theorem yo(K:aQ env ns){z:Str}(hz:rY (ns.lookup z)=true):(ns.lookup z==some .local)=(env.kindOf z==some .local):=by
 induction q:ns.lookup z with
 |none=>rw[q]at hz;cases hz
 |some k=>rw[q]at hz;induction k<;>first| (cases hz;done) | (rw[K.loc z q]) | (rw[K.cel z q])
theorem qR{x y:Str}{px py pt pv:Pos}{kt kv:Nat}{a b:Expr}(K:aQ env ns)(h:lh ns x y px py a b=true):
  swappedStores [.Tuple [.Name x px,.Name y py] kt pt] (.Tuple [a,b] kv pv) env=pure none∨swappedStores [.Tuple [.Name x px,.Name y py] kt pt] (.Tuple [a,b] kv pv) env=pure (some [x,y]):=by
 suffices H:∀P:Sem (Option (List Str))->Prop,P (pure none)->P (pure (some [x,y]))->P (swappedStores [.Tuple [.Name x px,.Name y py] kt pt] (.Tuple [a,b] kv pv) env)from H (fun r=>r=pure none∨r=pure (some [x,y])) (.inl rfl) (.inr rfl)
 intro P p0 p1
 unfold lh at h
 simp only[Bool.and_eq_true,Bool.not_eq_true']at h
 obtain⟨⟨⟨⟨⟨_,h2⟩,h3⟩,h4⟩,h5⟩,h6⟩:=h
 rw[yo K h4,yo K h5]at h6
 unfold swappedStores
 refine BI (fun _=>p0) fun _=>BI (fun _=>p0) fun _=>?_
 refine BI (fun _=>p0) fun hn=>BI (fun _=>p0) fun hf=>BI (fun hc=>?_) fun _=>?_
 all_goals
  rw[Bool.or_eq_true,not_or,bne_iff_ne,Decidable.not_not]at hn
  refine nT (Dq (x:=x) (y:=y) (c1:=env.kindOf x==some .local&&px.line==px.line) (c2:=env.kindOf y==some .local&&py.line==px.line) (by rfl) (by rfl) hn.1) fun e q1 q2=>?_
 ·rw[Bool.and_eq_true]at q1 q2
  rw[q1.1,q2.1,q2.2]at h6
  revert h6 hf hc
  show(false||(foldedForSure 8 a&&foldedForSure 8 b)|| !(constantsAlone 8 a&&constantsAlone 8 b))=true->¬(foldedForSure 8 a&&(foldedForSure 8 b&&true))=true->(constantsAlone 8 a&&(constantsAlone 8 b&&true))=true->_
  generalize foldedForSure 8 a=f1;generalize foldedForSure 8 b=f2;generalize constantsAlone 8 a=c1;generalize constantsAlone 8 b=c2
  intro u v w
  revert u v w
  cases f1<;>cases f2<;>cases c1<;>cases c2<;>intro u v w<;>first|exact(Bool.false_ne_true u).elim|exact(v rfl).elim|exact(Bool.false_ne_true w).elim
 ·rw[e];exact p1
theorem r8{x y:Str}{px py pt pv:Pos}{kt kv:Nat}{a b:Expr}(K:aQ env ns)(hp:lh ns x y px py a b=true)(h:E c d env l a V fun va V1=>E c d env l b V1 fun vb V2=>QF .next (eW (eW l x va) y vb) V2):
  S c d env l (.Assign [.Tuple [.Name x px,.Name y py] kt pt] (.Tuple [a,b] kv pv) p) V QF:=by
 have hp':=hp
 unfold lh at hp'
 simp only[Bool.and_eq_true,Bool.not_eq_true']at hp'
 obtain⟨⟨⟨⟨⟨h1,h2⟩,h3⟩,h4⟩,h5⟩,h6⟩:=hp'
 exact yN (by simpa using h1) (K.s h4) (K.s h5) (fun _=>qR K hp) h2 h3 h
abbrev kd(Q:Value->St->Prop):Fl->au->St->Prop:=fun f l V=>match f with| .ret v=>Q v V| .next=>Q .none V| .other=>False
theorem cQ{α:Type}{n:Nat}{l:List α}(h:l.length=n+1):∃a r,l=a::r/\r.length=n:=by
 induction l using bD with
 |nil=>cases h
 |cons a r=>exact⟨a,r,rfl,Nat.succ.inj h⟩
theorem li{f:Addr}{o:Obj}{fd:FuncData}{ps:List Str}{body:List Stmt}{vs:List Value}(hf:c.K.lookup f=some o)(hd:o.data= .func fd)(hb:fd.body= .stmts body)(ok:je c.K fd ps=true)(hlen:ps.length=vs.length)
  (hbind:∀(s:Shared) (rvs:List Value),c.K.In s.heap->rvs.length=ps.length->BindsTo s fd ⟨rvs,[]⟩ (ps.zip rvs))
  (h:∀env:Env,aQ env fd.scope.names->SS c d env (ps.zip vs) body V (kd Q)):
  ab c (d+1) (.ref f) vs V Q:=sO hf hd (.of hb ok) hlen hbind fun env hk=>h env (.of hk)
theorem y6{f:Addr}{o:Obj}{fd:FuncData}{body:List Stmt}(hf:c.K.lookup f=some o)(hd:o.data= .func fd)(hb:fd.body= .stmts body)(ok:je c.K fd []=true)
  (hbind:bindArgs fd ⟨[],[]⟩=pure [])
  (h:∀env:Env,aQ env fd.scope.names->SS c d env [] body V (kd Q)):
  ab c (d+1) (.ref f) [] V Q:=li (ps:=[]) (vs:=[]) hf hd hb ok rfl (fun s rvs hK hl=>by
  cases List.eq_nil_of_length_eq_zero hl
  exact BindsTo.of_eq hbind) h
theorem uq{f:Addr}{o:Obj}{fd:FuncData}{body:List Stmt}{x0:Str}{v0:Value}(hf:c.K.lookup f=some o)(hd:o.data= .func fd)(hb:fd.body= .stmts body)(ok:je c.K fd [x0]=true)
  (hbind:∀a0:Value,bindArgs fd ⟨[a0],[]⟩=pure [(x0,a0)])
  (h:∀env:Env,aQ env fd.scope.names->SS c d env [(x0,v0)] body V (kd Q)):
  ab c (d+1) (.ref f) [v0] V Q:=li (ps:=[x0]) (vs:=[v0]) hf hd hb ok rfl (fun s rvs hK hl=>by
  refine fM (cQ hl) fun a0 r0 e0 h0=>?_
  subst e0
  cases List.eq_nil_of_length_eq_zero h0
  exact BindsTo.of_eq (hbind a0)) h
theorem qS{f:Addr}{o:Obj}{fd:FuncData}{body:List Stmt}{x0 x1:Str}{v0 v1:Value}(hf:c.K.lookup f=some o)(hd:o.data= .func fd)(hb:fd.body= .stmts body)(ok:je c.K fd [x0,x1]=true)
  (hbind:∀a0 a1:Value,bindArgs fd ⟨[a0,a1],[]⟩=pure [(x0,a0),(x1,a1)])
  (h:∀env:Env,aQ env fd.scope.names->SS c d env [(x0,v0),(x1,v1)] body V (kd Q)):
  ab c (d+1) (.ref f) [v0,v1] V Q:=li (ps:=[x0,x1]) (vs:=[v0,v1]) hf hd hb ok rfl (fun s rvs hK hl=>by
  refine fM (cQ hl) fun a0 r0 e0 h0=>?_
  subst e0
  refine fM (cQ h0) fun a1 r1 e1 h1=>?_
  subst e1
  cases List.eq_nil_of_length_eq_zero h1
  exact BindsTo.of_eq (hbind a0 a1)) h
theorem jD{f:Addr}{o:Obj}{fd:FuncData}{body:List Stmt}{x0 x1 x2:Str}{v0 v1 v2:Value}(hf:c.K.lookup f=some o)(hd:o.data= .func fd)(hb:fd.body= .stmts body)(ok:je c.K fd [x0,x1,x2]=true)
  (hbind:∀a0 a1 a2:Value,bindArgs fd ⟨[a0,a1,a2],[]⟩=pure [(x0,a0),(x1,a1),(x2,a2)])
  (h:∀env:Env,aQ env fd.scope.names->SS c d env [(x0,v0),(x1,v1),(x2,v2)] body V (kd Q)):
  ab c (d+1) (.ref f) [v0,v1,v2] V Q:=li (ps:=[x0,x1,x2]) (vs:=[v0,v1,v2]) hf hd hb ok rfl (fun s rvs hK hl=>by
  refine fM (cQ hl) fun a0 r0 e0 h0=>?_
  subst e0
  refine fM (cQ h0) fun a1 r1 e1 h1=>?_
  subst e1
  refine fM (cQ h1) fun a2 r2 e2 h2=>?_
  subst e2
  cases List.eq_nil_of_length_eq_zero h2
  exact BindsTo.of_eq (hbind a0 a1 a2)) h
theorem lj{f:Addr}{o:Obj}{fd:FuncData}{body:List Stmt}{x0 x1 x2 x3:Str}{v0 v1 v2 v3:Value}(hf:c.K.lookup f=some o)(hd:o.data= .func fd)(hb:fd.body= .stmts body)(ok:je c.K fd [x0,x1,x2,x3]=true)
  (hbind:∀a0 a1 a2 a3:Value,bindArgs fd ⟨[a0,a1,a2,a3],[]⟩=pure [(x0,a0),(x1,a1),(x2,a2),(x3,a3)])
  (h:∀env:Env,aQ env fd.scope.names->SS c d env [(x0,v0),(x1,v1),(x2,v2),(x3,v3)] body V (kd Q)):
  ab c (d+1) (.ref f) [v0,v1,v2,v3] V Q:=li (ps:=[x0,x1,x2,x3]) (vs:=[v0,v1,v2,v3]) hf hd hb ok rfl (fun s rvs hK hl=>by
  refine fM (cQ hl) fun a0 r0 e0 h0=>?_
  subst e0
  refine fM (cQ h0) fun a1 r1 e1 h1=>?_
  subst e1
  refine fM (cQ h1) fun a2 r2 e2 h2=>?_
  subst e2
  refine fM (cQ h2) fun a3 r3 e3 h3=>?_
  subst e3
  cases List.eq_nil_of_length_eq_zero h3
  exact BindsTo.of_eq (hbind a0 a1 a2 a3)) h
theorem y7{f:Addr}{o:Obj}{fd:FuncData}{body:List Stmt}{x0 x1 x2 x3 x4:Str}{v0 v1 v2 v3 v4:Value}(hf:c.K.lookup f=some o)(hd:o.data= .func fd)(hb:fd.body= .stmts body)(ok:je c.K fd [x0,x1,x2,x3,x4]=true)
  (hbind:∀a0 a1 a2 a3 a4:Value,bindArgs fd ⟨[a0,a1,a2,a3,a4],[]⟩=pure [(x0,a0),(x1,a1),(x2,a2),(x3,a3),(x4,a4)])
  (h:∀env:Env,aQ env fd.scope.names->SS c d env [(x0,v0),(x1,v1),(x2,v2),(x3,v3),(x4,v4)] body V (kd Q)):
  ab c (d+1) (.ref f) [v0,v1,v2,v3,v4] V Q:=li (ps:=[x0,x1,x2,x3,x4]) (vs:=[v0,v1,v2,v3,v4]) hf hd hb ok rfl (fun s rvs hK hl=>by
  refine fM (cQ hl) fun a0 r0 e0 h0=>?_
  subst e0
  refine fM (cQ h0) fun a1 r1 e1 h1=>?_
  subst e1
  refine fM (cQ h1) fun a2 r2 e2 h2=>?_
  subst e2
  refine fM (cQ h2) fun a3 r3 e3 h3=>?_
  subst e3
  refine fM (cQ h3) fun a4 r4 e4 h4=>?_
  subst e4
  cases List.eq_nil_of_length_eq_zero h4
  exact BindsTo.of_eq (hbind a0 a1 a2 a3 a4)) h
end
noncomputable abbrev Hp:Params->Frag:=Hd.Hp
abbrev GN(x:Str)(a:Nat):Prop:=∀P,nsIn (Hp P) mainGlobals x=some (some (.ref a))
theorem Dr:GN "Var" 59/\GN "Lit" 101/\GN "App" 141/\GN "Lam" 183/\GN "Let" 221/\GN "Alt" 242/\GN "Case" 282/\GN "Con" 322/\GN "Prim" 362/\GN "CoreProgram" 383/\GN "Signature" 411/\GN "hopeful" 422/\GN "both" 429/\GN "either" 434/\GN "without" 439/\GN "extended" 446/\GN "needed" 453/\GN "prim_needs" 460/\GN "call_needs" 467/\GN "case_needs" 474/\GN "signature_of" 479/\GN "functions_in" 484/\GN "settled" 489/\GN "bound_env" 494/\GN "with_binds" 499/\GN "let_needs" 506/\GN "signatures" 513/\GN "is_done" 520/\GN "Forcer" 557/\GN "forced" 566:=by
 refine⟨?_,?_,?_,?_,?_,?_,?_,?_,?_,?_,?_,?_,?_,?_,?_,?_,?_,?_,?_,?_,?_,?_,?_,?_,?_,?_,?_,?_,?_,?_⟩<;>(intro P;kernel_rfl)
theorem Dt:GN "same_head" 571/\GN "paired" 578/\GN "Alike" 614/\GN "alike" 625/\GN "CoreError" 656/\GN "KEY_WORDS" 659/\GN "is_number" 664/\GN "is_bare" 669/\GN "name_text" 676/\GN "names_text" 681/\GN "literal_text" 688/\GN "key_text" 695/\GN "binds_text" 700/\GN "case_text" 705/\GN "row_text" 710/\GN "inner_text" 717/\GN "core_text" 724/\GN "base_of" 731/\GN "Fresh" 764/\GN "_law_pool" 775/\GN "_law_take" 782/\GN "_law_one" 789/\GN "_law_new" 796/\GN "_law_tops" 803/\GN "_law_flags" 804/\GN "_law_expr" 812/\GN "_law_strict" 817/\GN "_law_ways" 822/\GN "_law_reached" 827/\GN "_law_dead" 832:=by
 refine⟨?_,?_,?_,?_,?_,?_,?_,?_,?_,?_,?_,?_,?_,?_,?_,?_,?_,?_,?_,?_,?_,?_,?_,?_,?_,?_,?_,?_,?_,?_⟩<;>(intro P;kernel_rfl)
theorem Du:GN "_law_sure" 837/\GN "_law_is_done" 844/\GN "_law_forced" 849/\GN "_law_call" 854/\GN "law" 859:=by
 refine⟨?_,?_,?_,?_,?_⟩<;>(intro P;kernel_rfl)
theorem on(P:Params):∃t,nsIn (Hp P) mainGlobals "NEVER_BARE"=some (some (.str "()| " t)):=⟨_,rfl⟩
theorem BJ:GN "law" 859:=by intro P;kernel_rfl
theorem C5:bootBuiltins "isinstance"=some (.builtin "isinstance")/\bootBuiltins "len"=some (.builtin "len")/\bootBuiltins "dict"=some (.type "dict")/\bootBuiltins "list"=some (.type "list")/\bootBuiltins "tuple"=some (.type "tuple")/\bootBuiltins "sorted"=some (.builtin "sorted")/\bootBuiltins "max"=some (.builtin "max")/\bootBuiltins "int"=some (.type "int")/\bootBuiltins "str"=some (.type "str")/\bootBuiltins "ord"=some (.builtin "ord")/\bootBuiltins "all"=some (.builtin "all")/\bootBuiltins "range"=some (.type "range")/\bootBuiltins "zip"=some (.type "zip")/\bootBuiltins "reversed"=some (.type "reversed"):=by
 refine⟨?_,?_,?_,?_,?_,?_,?_,?_,?_,?_,?_,?_,?_,?_⟩<;>kernel_rfl
noncomputable def bL:List Str:=["isinstance","len","dict","list","tuple","sorted","max","int","str","ord","all","range","zip","reversed"]
theorem bA(P:Params):(bL.all fun x=>(nsIn (Hp P) mainGlobals x).any Option.isNone)=true:=by kernel_rfl
theorem bt(P:Params)(x:Str)(h:bL.contains x=true):nsIn (Hp P) mainGlobals x=some none:=by
 have:=List.all_eq_true.mp (bA P) x (by simpa using h)
 induction e:nsIn (Hp P) mainGlobals x with
 |none=>rw[e]at this;cases this
 |some v=>induction v with
  |none=>rfl
  |some v=>rw[e]at this;cases this
theorem BK(P:Params):nsIn (Hp P) mainGlobals "zip"=some none:=bt P "zip" (by kernel_rfl)
theorem y8:bootBuiltins "zip"=some (.type "zip"):=by kernel_rfl
theorem qT(P:Params):nsIn (Hp P) mainGlobals "reversed"=some none:=bt P "reversed" (by kernel_rfl)
theorem pV:bootBuiltins "reversed"=some (.type "reversed"):=by kernel_rfl
noncomputable def C6:List Nat:=[42,49,59,84,91,101,126,131,141,166,173,183,206,211,221,242,265,272,282,307,312,322,347,352,362,383,408,411,422,429,434,439,446,453,460,467,474,479,484,489,494,499,506,513,520,539,544,549,554,557,566,571,578,599,604,611,614,625,656,664,669,676,681,688,695,700,705,710,717,724,731,754,761,764,775,782,789,796,803,812,817,822,827,832,837,844,849,854,859]
theorem Dv(P:Params):(C6.all fun a=>keepIn (Hp P) (.ref a))=true:=by kernel_rfl
theorem kp(P:Params)(a:Nat)(h:C6.contains a=true):keepIn (Hp P) (.ref a)=true:=List.all_eq_true.mp (Dv P) a (by simpa using h)
theorem BL(P:Params):keepIn (Hp P) (.ref 42)=true:=kp P 42 rfl
theorem BM(P:Params):keepIn (Hp P) (.ref 49)=true:=kp P 49 rfl
theorem BN(P:Params):keepIn (Hp P) (.ref 84)=true:=kp P 84 rfl
theorem BO(P:Params):keepIn (Hp P) (.ref 91)=true:=kp P 91 rfl
theorem y9(P:Params):keepIn (Hp P) (.ref 126)=true:=kp P 126 rfl
theorem za(P:Params):keepIn (Hp P) (.ref 131)=true:=kp P 131 rfl
theorem zb(P:Params):keepIn (Hp P) (.ref 166)=true:=kp P 166 rfl
theorem zc(P:Params):keepIn (Hp P) (.ref 173)=true:=kp P 173 rfl
theorem zd(P:Params):keepIn (Hp P) (.ref 206)=true:=kp P 206 rfl
theorem ze(P:Params):keepIn (Hp P) (.ref 211)=true:=kp P 211 rfl
theorem zf(P:Params):keepIn (Hp P) (.ref 265)=true:=kp P 265 rfl
theorem zg(P:Params):keepIn (Hp P) (.ref 272)=true:=kp P 272 rfl
theorem zh(P:Params):keepIn (Hp P) (.ref 307)=true:=kp P 307 rfl
theorem zi(P:Params):keepIn (Hp P) (.ref 312)=true:=kp P 312 rfl
theorem zj(P:Params):keepIn (Hp P) (.ref 347)=true:=kp P 347 rfl
theorem zk(P:Params):keepIn (Hp P) (.ref 352)=true:=kp P 352 rfl
theorem ur(P:Params):keepIn (Hp P) (.ref 408)=true:=kp P 408 rfl
theorem fF(P:Params):keepIn (Hp P) (.ref 539)=true:=kp P 539 rfl
theorem zl(P:Params):keepIn (Hp P) (.ref 544)=true:=kp P 544 rfl
theorem zm(P:Params):keepIn (Hp P) (.ref 549)=true:=kp P 549 rfl
theorem zn(P:Params):keepIn (Hp P) (.ref 554)=true:=kp P 554 rfl
theorem zo(P:Params):keepIn (Hp P) (.ref 599)=true:=kp P 599 rfl
theorem zp(P:Params):keepIn (Hp P) (.ref 604)=true:=kp P 604 rfl
theorem zq(P:Params):keepIn (Hp P) (.ref 611)=true:=kp P 611 rfl
theorem zt(P:Params):keepIn (Hp P) (.ref 754)=true:=kp P 754 rfl
theorem zu(P:Params):keepIn (Hp P) (.ref 761)=true:=kp P 761 rfl
theorem dE(P:Params):dC (Hp P) 59=true:=by kernel_rfl
theorem zv(P:Params):findIn (Hp P) (.ref 59) "__init__"=some (some (.ref 35)):=by kernel_rfl
theorem zw(P:Params):isFn (Hp P) (.ref 35)=true:=by kernel_rfl
theorem bT(P:Params):aI (Hp P) 59 "name"=true:=by kernel_rfl
theorem oo(P:Params):findIn (Hp P) (.ref 59) "groups"=some (some (.ref 42)):=by kernel_rfl
theorem ot(P:Params):isFn (Hp P) (.ref 42)=true:=by kernel_rfl
theorem pW(P:Params):findIn (Hp P) (.ref 59) "parts"=some (some (.ref 49)):=by kernel_rfl
theorem pX(P:Params):isFn (Hp P) (.ref 49)=true:=by kernel_rfl
theorem dX(P:Params):dC (Hp P) 101=true:=by kernel_rfl
theorem wr(P:Params):findIn (Hp P) (.ref 101) "__init__"=some (some (.ref 77)):=by kernel_rfl
theorem wu(P:Params):isFn (Hp P) (.ref 77)=true:=by kernel_rfl
theorem fS(P:Params):aI (Hp P) 101 "kind"=true:=by kernel_rfl
theorem fk(P:Params):aI (Hp P) 101 "value"=true:=by kernel_rfl
theorem mz(P:Params):findIn (Hp P) (.ref 101) "groups"=some (some (.ref 84)):=by kernel_rfl
theorem mA(P:Params):isFn (Hp P) (.ref 84)=true:=by kernel_rfl
theorem ou(P:Params):findIn (Hp P) (.ref 101) "parts"=some (some (.ref 91)):=by kernel_rfl
theorem ox(P:Params):isFn (Hp P) (.ref 91)=true:=by kernel_rfl
theorem aS(P:Params):dC (Hp P) 141=true:=by kernel_rfl
theorem wv(P:Params):findIn (Hp P) (.ref 141) "__init__"=some (some (.ref 119)):=by kernel_rfl
theorem ww(P:Params):isFn (Hp P) (.ref 119)=true:=by kernel_rfl
theorem aU(P:Params):aI (Hp P) 141 "fun"=true:=by kernel_rfl
theorem bH(P:Params):aI (Hp P) 141 "args"=true:=by kernel_rfl
theorem mB(P:Params):findIn (Hp P) (.ref 141) "groups"=some (some (.ref 126)):=by kernel_rfl
theorem mC(P:Params):isFn (Hp P) (.ref 126)=true:=by kernel_rfl
theorem oy(P:Params):findIn (Hp P) (.ref 141) "parts"=some (some (.ref 131)):=by kernel_rfl
theorem oz(P:Params):isFn (Hp P) (.ref 131)=true:=by kernel_rfl
theorem bP(P:Params):dC (Hp P) 183=true:=by kernel_rfl
theorem wx(P:Params):findIn (Hp P) (.ref 183) "__init__"=some (some (.ref 159)):=by kernel_rfl
theorem wy(P:Params):isFn (Hp P) (.ref 159)=true:=by kernel_rfl
theorem bB(P:Params):aI (Hp P) 183 "params"=true:=by kernel_rfl
theorem cB(P:Params):aI (Hp P) 183 "body"=true:=by kernel_rfl
theorem mD(P:Params):findIn (Hp P) (.ref 183) "groups"=some (some (.ref 166)):=by kernel_rfl
theorem mE(P:Params):isFn (Hp P) (.ref 166)=true:=by kernel_rfl
theorem oE(P:Params):findIn (Hp P) (.ref 183) "parts"=some (some (.ref 173)):=by kernel_rfl
theorem oF(P:Params):isFn (Hp P) (.ref 173)=true:=by kernel_rfl
theorem aM(P:Params):dC (Hp P) 221=true:=by kernel_rfl
theorem wz(P:Params):findIn (Hp P) (.ref 221) "__init__"=some (some (.ref 201)):=by kernel_rfl
theorem wA(P:Params):isFn (Hp P) (.ref 201)=true:=by kernel_rfl
theorem bf(P:Params):aI (Hp P) 221 "binds"=true:=by kernel_rfl
theorem bI(P:Params):aI (Hp P) 221 "body"=true:=by kernel_rfl
theorem bp(P:Params):aI (Hp P) 221 "is_rec"=true:=by kernel_rfl
theorem mF(P:Params):findIn (Hp P) (.ref 221) "groups"=some (some (.ref 206)):=by kernel_rfl
theorem mG(P:Params):isFn (Hp P) (.ref 206)=true:=by kernel_rfl
theorem oG(P:Params):findIn (Hp P) (.ref 221) "parts"=some (some (.ref 211)):=by kernel_rfl
theorem oH(P:Params):isFn (Hp P) (.ref 211)=true:=by kernel_rfl
theorem bV(P:Params):dC (Hp P) 242=true:=by kernel_rfl
theorem wC(P:Params):findIn (Hp P) (.ref 242) "__init__"=some (some (.ref 239)):=by kernel_rfl
theorem wD(P:Params):isFn (Hp P) (.ref 239)=true:=by kernel_rfl
theorem dq(P:Params):aI (Hp P) 242 "key"=true:=by kernel_rfl
theorem dY(P:Params):aI (Hp P) 242 "names"=true:=by kernel_rfl
theorem du(P:Params):aI (Hp P) 242 "body"=true:=by kernel_rfl
theorem aK(P:Params):dC (Hp P) 282=true:=by kernel_rfl
theorem wE(P:Params):findIn (Hp P) (.ref 282) "__init__"=some (some (.ref 260)):=by kernel_rfl
theorem wF(P:Params):isFn (Hp P) (.ref 260)=true:=by kernel_rfl
theorem cC(P:Params):aI (Hp P) 282 "value"=true:=by kernel_rfl
theorem dv(P:Params):aI (Hp P) 282 "name"=true:=by kernel_rfl
theorem bZ(P:Params):aI (Hp P) 282 "alts"=true:=by kernel_rfl
theorem bg(P:Params):aI (Hp P) 282 "other"=true:=by kernel_rfl
theorem mH(P:Params):findIn (Hp P) (.ref 282) "groups"=some (some (.ref 265)):=by kernel_rfl
theorem mI(P:Params):isFn (Hp P) (.ref 265)=true:=by kernel_rfl
theorem oI(P:Params):findIn (Hp P) (.ref 282) "parts"=some (some (.ref 272)):=by kernel_rfl
theorem oJ(P:Params):isFn (Hp P) (.ref 272)=true:=by kernel_rfl
theorem dk(P:Params):dC (Hp P) 322=true:=by kernel_rfl
theorem wG(P:Params):findIn (Hp P) (.ref 322) "__init__"=some (some (.ref 300)):=by kernel_rfl
theorem wH(P:Params):isFn (Hp P) (.ref 300)=true:=by kernel_rfl
theorem dN(P:Params):aI (Hp P) 322 "name"=true:=by kernel_rfl
theorem eM(P:Params):aI (Hp P) 322 "args"=true:=by kernel_rfl
theorem mJ(P:Params):findIn (Hp P) (.ref 322) "groups"=some (some (.ref 307)):=by kernel_rfl
theorem mK(P:Params):isFn (Hp P) (.ref 307)=true:=by kernel_rfl
theorem oK(P:Params):findIn (Hp P) (.ref 322) "parts"=some (some (.ref 312)):=by kernel_rfl
theorem oM(P:Params):isFn (Hp P) (.ref 312)=true:=by kernel_rfl
theorem cn(P:Params):dC (Hp P) 362=true:=by kernel_rfl
theorem wI(P:Params):findIn (Hp P) (.ref 362) "__init__"=some (some (.ref 340)):=by kernel_rfl
theorem wJ(P:Params):isFn (Hp P) (.ref 340)=true:=by kernel_rfl
theorem dO(P:Params):aI (Hp P) 362 "op"=true:=by kernel_rfl
theorem cT(P:Params):aI (Hp P) 362 "args"=true:=by kernel_rfl
theorem mL(P:Params):findIn (Hp P) (.ref 362) "groups"=some (some (.ref 347)):=by kernel_rfl
theorem mM(P:Params):isFn (Hp P) (.ref 347)=true:=by kernel_rfl
theorem oN(P:Params):findIn (Hp P) (.ref 362) "parts"=some (some (.ref 352)):=by kernel_rfl
theorem oO(P:Params):isFn (Hp P) (.ref 352)=true:=by kernel_rfl
theorem dZ(P:Params):dC (Hp P) 383=true:=by kernel_rfl
theorem wK(P:Params):findIn (Hp P) (.ref 383) "__init__"=some (some (.ref 380)):=by kernel_rfl
theorem wL(P:Params):isFn (Hp P) (.ref 380)=true:=by kernel_rfl
theorem d0(P:Params):aI (Hp P) 383 "binds"=true:=by kernel_rfl
theorem j0(P:Params):aI (Hp P) 383 "cons"=true:=by kernel_rfl
theorem hH(P:Params):aI (Hp P) 383 "main"=true:=by kernel_rfl
theorem cD(P:Params):dC (Hp P) 411=true:=by kernel_rfl
theorem wM(P:Params):findIn (Hp P) (.ref 411) "__init__"=some (some (.ref 401)):=by kernel_rfl
theorem wN(P:Params):isFn (Hp P) (.ref 401)=true:=by kernel_rfl
theorem cV(P:Params):aI (Hp P) 411 "flags"=true:=by kernel_rfl
theorem hJ(P:Params):aI (Hp P) 411 "free"=true:=by kernel_rfl
theorem dJ(P:Params):aI (Hp P) 411 "diverges"=true:=by kernel_rfl
theorem ll(P:Params):findIn (Hp P) (.ref 411) "row"=some (some (.ref 408)):=by kernel_rfl
theorem lm(P:Params):isFn (Hp P) (.ref 408)=true:=by kernel_rfl
theorem cF(P:Params):dC (Hp P) 557=true:=by kernel_rfl
theorem wO(P:Params):findIn (Hp P) (.ref 557) "__init__"=some (some (.ref 534)):=by kernel_rfl
theorem wP(P:Params):isFn (Hp P) (.ref 534)=true:=by kernel_rfl
theorem jf(P:Params):aI (Hp P) 557 "fresh"=true:=by kernel_rfl
theorem b8(P:Params):findIn (Hp P) (.ref 557) "expr"=some (some (.ref 539)):=by kernel_rfl
theorem cb(P:Params):isFn (Hp P) (.ref 539)=true:=by kernel_rfl
theorem pY(P:Params):findIn (Hp P) (.ref 557) "case"=some (some (.ref 544)):=by kernel_rfl
theorem pZ(P:Params):isFn (Hp P) (.ref 544)=true:=by kernel_rfl
theorem qU(P:Params):findIn (Hp P) (.ref 557) "let"=some (some (.ref 549)):=by kernel_rfl
theorem qV(P:Params):isFn (Hp P) (.ref 549)=true:=by kernel_rfl
theorem p6(P:Params):findIn (Hp P) (.ref 557) "call"=some (some (.ref 554)):=by kernel_rfl
theorem p7(P:Params):isFn (Hp P) (.ref 554)=true:=by kernel_rfl
theorem fT(P:Params):dC (Hp P) 614=true:=by kernel_rfl
theorem wQ(P:Params):findIn (Hp P) (.ref 614) "__init__"=some (some (.ref 592)):=by kernel_rfl
theorem wR(P:Params):isFn (Hp P) (.ref 592)=true:=by kernel_rfl
theorem fU(P:Params):aI (Hp P) 614 "many"=true:=by kernel_rfl
theorem kf(P:Params):findIn (Hp P) (.ref 614) "numbered"=some (some (.ref 599)):=by kernel_rfl
theorem kg(P:Params):isFn (Hp P) (.ref 599)=true:=by kernel_rfl
theorem jE(P:Params):findIn (Hp P) (.ref 614) "of_groups"=some (some (.ref 604)):=by kernel_rfl
theorem jF(P:Params):isFn (Hp P) (.ref 604)=true:=by kernel_rfl
theorem qW(P:Params):findIn (Hp P) (.ref 614) "run"=some (some (.ref 611)):=by kernel_rfl
theorem qX(P:Params):isFn (Hp P) (.ref 611)=true:=by kernel_rfl
theorem fm(P:Params):dC (Hp P) 764=true:=by kernel_rfl
theorem wS(P:Params):findIn (Hp P) (.ref 764) "__init__"=some (some (.ref 747)):=by kernel_rfl
theorem wT(P:Params):isFn (Hp P) (.ref 747)=true:=by kernel_rfl
theorem fG(P:Params):aI (Hp P) 764 "avoided"=true:=by kernel_rfl
theorem fH(P:Params):aI (Hp P) 764 "numbers"=true:=by kernel_rfl
theorem oP(P:Params):findIn (Hp P) (.ref 764) "avoid"=some (some (.ref 754)):=by kernel_rfl
theorem oQ(P:Params):isFn (Hp P) (.ref 754)=true:=by kernel_rfl
theorem p8(P:Params):findIn (Hp P) (.ref 764) "next"=some (some (.ref 761)):=by kernel_rfl
theorem p9(P:Params):isFn (Hp P) (.ref 761)=true:=by kernel_rfl
abbrev C7(c:Cx)(d:Nat)(f:Value->Sem Value)(Q:Value->St->Prop):Value->St->Prop:=fun x V=>J1 c d f x V Q
abbrev Dw(c:Cx)(d:Nat)(f:Value->Value->Sem Value)(Q:Value->St->Prop)(x:Value):Value->St->Prop:=fun y V=>J2 c d f x y V Q
abbrev k2(c:Cx)(d:Nat)(env:Env)(l:au)(b:Expr)(f:Value->Value->Sem Value)(Q:Value->St->Prop):Value->St->Prop:=fun x V=>E c d env l b V (Dw c d f Q x)
abbrev C8(c:Cx)(d:Nat)(QB:Bool->St->Prop):Value->St->Prop:=fun x V=>Tr c d x V QB
def sV(c:Cx)(d:Nat)(env:Env)(l:au)(a b:Expr)(Q:Value->St->Prop):Bool->St->Prop:=fun x V=>if x=true then E c d env l a V Q else E c d env l b V Q
def yp(c:Cx)(d:Nat)(env:Env)(l:au)(b:Expr)(Q:Value->St->Prop)(x:Value):Bool->St->Prop:=fun t V=>if t=true then E c d env l b V Q else Q x V
def BP(c:Cx)(d:Nat)(env:Env)(l:au)(b:Expr)(Q:Value->St->Prop)(x:Value):Bool->St->Prop:=fun t V=>if t=true then Q x V else E c d env l b V Q
abbrev BQ(c:Cx)(d:Nat)(env:Env)(l:au)(b:Expr)(Q:Value->St->Prop):Value->St->Prop:=fun x V=>Tr c d x V (yp c d env l b Q x)
abbrev Dx(c:Cx)(d:Nat)(env:Env)(l:au)(b:Expr)(Q:Value->St->Prop):Value->St->Prop:=fun x V=>Tr c d x V (BP c d env l b Q x)
abbrev CF(QB:Bool->St->Prop):Bool->St->Prop:=fun b V=>QB (!b) V
def qc(c:Cx)(d:Nat)(env:Env)(l:au)(r:List Expr)(p:Pos)(QB:Bool->St->Prop):Bool->St->Prop:=fun b V=>if b=true then T c d env l (.BoolOp .And r p) V QB else QB false V
def ut(c:Cx)(d:Nat)(env:Env)(l:au)(r:List Expr)(p:Pos)(QB:Bool->St->Prop):Bool->St->Prop:=fun b V=>if b=true then QB true V else T c d env l (.BoolOp .Or r p) V QB
abbrev yq(QL:List Value->St->Prop)(x:Value):List Value->St->Prop:=fun xs V=>QL (x::xs) V
abbrev Dy(c:Cx)(d:Nat)(env:Env)(l:au)(p:Pos)(r:List Expr)(QL:List Value->St->Prop):Value->St->Prop:=fun x V=>Es c d env l p r V (yq QL x)
abbrev uu(c:Cx)(d:Nat)(f:Value)(Q:Value->St->Prop):List Value->St->Prop:=fun vs V=>Calls c d f vs V Q
abbrev Dz(c:Cx)(d:Nat)(f:Value)(first:List Value)(Q:Value->St->Prop):List Value->St->Prop:=fun vs V=>Calls c d f (first++vs) V Q
abbrev C9(c:Cx)(d:Nat)(env:Env)(l:au)(p:Pos)(es:List Expr)(Q:Value->St->Prop):Value->List Value->St->Prop:=fun f first V=>pD c f/\Es c d env l p es V (Dz c d f first Q)
abbrev DA(c:Cx)(d:Nat)(m:Str)(QM:Value->List Value->St->Prop):Value->St->Prop:=fun x V=>gT c d m x V QM
abbrev CG(Q:Value->St->Prop):List Value->St->Prop:=fun vs V=>vs.length<=sizeLine/\∀a,V a=none->Q (.ref a) (V.set a (.list vs))
abbrev CH(Q:Value->St->Prop):List Value->St->Prop:=fun vs V=>vs.length<=sizeLine/\∀a,V a=none->Q (.ref a) (V.set a (.tup vs))
abbrev BR(c:Cx)(d:Nat)(Q:Value->St->Prop)(x:Value):Value->St->Prop:=fun y V=>dI V x=true/\J2 c d getItem x y V Q
abbrev CI(c:Cx)(d:Nat)(env:Env)(l:au)(i:Expr)(Q:Value->St->Prop):Value->St->Prop:=fun x V=>E c d env l i V (BR c d Q x)
abbrev Da(c:Cx)(d:Nat)(env:Env)(r:List Stmt)(QF:Fl->au->St->Prop):Fl->au->St->Prop:=fun f l V=>match f with| .next=>SS c d env l r V QF|f=>QF f l V
abbrev BS(QF:Fl->au->St->Prop)(l:au):Value->St->Prop:=fun v V=>QF (.ret v) l V
def qY(c:Cx)(d:Nat)(env:Env)(l:au)(a b:List Stmt)(QF:Fl->au->St->Prop):Bool->St->Prop:=fun x V=>if x=true then SS c d env l a V QF else SS c d env l b V QF
abbrev DB(QF:Fl->au->St->Prop)(l:au):Value->St->Prop:=fun _ V=>QF .next l V
abbrev kN(QF:Fl->au->St->Prop):au->St->Prop:=fun l V=>QF .next l V
abbrev CJ(c:Cx)(d:Nat)(env:Env)(l:au)(t:Expr)(QF:Fl->au->St->Prop):Value->St->Prop:=fun x V=>nY c d env l t x V (kN QF)
abbrev wU(QF:Fl->au->St->Prop)(l:au)(x:Str):Value->St->Prop:=fun v V=>QF .next (eW l x v) V
abbrev CL(c:Cx)(d:Nat)(env:Env)(l:au)(x:Str)(r:List Stmt)(QF:Fl->au->St->Prop):Value->St->Prop:=fun v V=>SS c d env (eW l x v) r V QF
abbrev CM(c:Cx)(d:Nat)(env:Env)(l:au)(r:List Stmt)(QF:Fl->au->St->Prop):Value->St->Prop:=fun _ V=>SS c d env l r V QF
abbrev CN(c:Cx)(d:Nat)(env:Env)(t:Expr)(body:List Stmt)(l:au)(QF:Fl->au->St->Prop):Value->St->Prop:=fun v V=>∃src,dG V v=some src/\mx c d env t body src 0 l V QF
abbrev wV(Q:Value->St->Prop):fN->St->Prop:=fun acc V=>∀a,V a=none->gG acc a V Q
abbrev nc(c:Cx)(d:Nat)(ck:CK)(t iter:Expr)(ifs:List Expr)(scope:Scope)(p:Pos)(acc:fN)(l:au)(QA:fN->St->Prop):Value->St->Prop:=fun v V=>
 ∃src,dG V v=some src/\∀cenv:Env,aQ cenv scope.names->eL c d cenv ck t iter ifs scope p src 0 acc (sN scope.names l) V QA
abbrev kQ(QL:au->St->Prop)(l:au):St->Prop:=fun V=>QL l V
abbrev DC(c:Cx)(d:Nat)(a:Str)(v:Value)(l:au)(QL:au->St->Prop):Value->St->Prop:=fun x V=>tS c d (fun o v=>setAttr o a v) x v V (kQ QL l)
abbrev CO(c:Cx)(d:Nat)(x v:Value)(l:au)(QL:au->St->Prop):Value->St->Prop:=fun y V=>wc c d x y v V (kQ QL l)
abbrev DD(c:Cx)(d:Nat)(env:Env)(l:au)(i:Expr)(v:Value)(QL:au->St->Prop):Value->St->Prop:=fun x V=>E c d env l i V (CO c d x v l QL)
abbrev DE(l:au)(x y:Str)(va:Value)(QF:Fl->au->St->Prop):Value->St->Prop:=fun vb V=>QF .next (eW (eW l x va) y vb) V
abbrev kP(c:Cx)(d:Nat)(env:Env)(l:au)(b:Expr)(x y:Str)(QF:Fl->au->St->Prop):Value->St->Prop:=fun va V=>E c d env l b V (DE l x y va QF)
noncomputable def iI(ns:List (Str×NameKind))(x:Str):Bool:=Co (ns.lookup x)&&bk x
section
variable{c:Cx}{d:Nat}{env:Env}{l:au}{V:St}{p pos:Pos}{Q:Value->St->Prop}{QB:Bool->St->Prop}{QF:Fl->au->St->Prop}{QL:au->St->Prop}{ns:List (Str×NameKind)}
def HK(c:Cx):Prop:=c.K=Hp c.w.params
theorem sz{n:Nat}(h:n<=16777216):n<=sizeLine:=by rw[sizeLine_eq];exact h
theorem bW{n:Nat}(h:Nat.ble n 1000=true):n<=sizeLine:=sz (Nat.le_trans (Nat.le_of_ble_eq_true h) (Nat.le_of_ble_eq_true rfl))
theorem nn{α:Type}{a:α}:a∉([]:List α):=List.not_mem_nil
theorem CP{f:Addr}{o:Obj}{fd:FuncData}{body:List Stmt}(KT:HK c)(h:∀env:Env,aQ env fd.scope.names->SS c d env [] body V (kd Q))(hf:(Hp c.w.params).lookup f=some o:=by rfl)(hd:o.data= .func fd:=by rfl)(hb:fd.body= .stmts body:=by rfl)(ok:je (Hp c.w.params) fd []=true:=by kernel_rfl)(hbind:bindArgs fd ⟨[],[]⟩=pure []:=by intros;rfl):ab c (d+1) (.ref f) [] V Q:=by
 rw[←KT]at hf ok;exact y6 hf hd hb ok hbind h
theorem cZ{f:Addr}{o:Obj}{fd:FuncData}{body:List Stmt}{x0:Str}{v0:Value}(KT:HK c)(h:∀env:Env,aQ env fd.scope.names->SS c d env [(x0,v0)] body V (kd Q))(hf:(Hp c.w.params).lookup f=some o:=by rfl)(hd:o.data= .func fd:=by rfl)(hb:fd.body= .stmts body:=by rfl)(ok:je (Hp c.w.params) fd [x0]=true:=by kernel_rfl)(hbind:∀a0:Value,bindArgs fd ⟨[a0],[]⟩=pure [(x0,a0)]:=by intros;rfl):ab c (d+1) (.ref f) [v0] V Q:=by
 rw[←KT]at hf ok;exact uq hf hd hb ok hbind h
theorem eC{f:Addr}{o:Obj}{fd:FuncData}{body:List Stmt}{x0 x1:Str}{v0 v1:Value}(KT:HK c)(h:∀env:Env,aQ env fd.scope.names->SS c d env [(x0,v0),(x1,v1)] body V (kd Q))(hf:(Hp c.w.params).lookup f=some o:=by rfl)(hd:o.data= .func fd:=by rfl)(hb:fd.body= .stmts body:=by rfl)(ok:je (Hp c.w.params) fd [x0,x1]=true:=by kernel_rfl)(hbind:∀a0 a1:Value,bindArgs fd ⟨[a0,a1],[]⟩=pure [(x0,a0),(x1,a1)]:=by intros;rfl):ab c (d+1) (.ref f) [v0,v1] V Q:=by
 rw[←KT]at hf ok;exact qS hf hd hb ok hbind h
theorem qZ{f:Addr}{o:Obj}{fd:FuncData}{body:List Stmt}{x0 x1 x2:Str}{v0 v1 v2:Value}(KT:HK c)(h:∀env:Env,aQ env fd.scope.names->SS c d env [(x0,v0),(x1,v1),(x2,v2)] body V (kd Q))(hf:(Hp c.w.params).lookup f=some o:=by rfl)(hd:o.data= .func fd:=by rfl)(hb:fd.body= .stmts body:=by rfl)(ok:je (Hp c.w.params) fd [x0,x1,x2]=true:=by kernel_rfl)(hbind:∀a0 a1 a2:Value,bindArgs fd ⟨[a0,a1,a2],[]⟩=pure [(x0,a0),(x1,a1),(x2,a2)]:=by intros;rfl):ab c (d+1) (.ref f) [v0,v1,v2] V Q:=by
 rw[←KT]at hf ok;exact jD hf hd hb ok hbind h
theorem BU{f:Addr}{o:Obj}{fd:FuncData}{body:List Stmt}{x0 x1 x2 x3:Str}{v0 v1 v2 v3:Value}(KT:HK c)(h:∀env:Env,aQ env fd.scope.names->SS c d env [(x0,v0),(x1,v1),(x2,v2),(x3,v3)] body V (kd Q))(hf:(Hp c.w.params).lookup f=some o:=by rfl)(hd:o.data= .func fd:=by rfl)(hb:fd.body= .stmts body:=by rfl)(ok:je (Hp c.w.params) fd [x0,x1,x2,x3]=true:=by kernel_rfl)(hbind:∀a0 a1 a2 a3:Value,bindArgs fd ⟨[a0,a1,a2,a3],[]⟩=pure [(x0,a0),(x1,a1),(x2,a2),(x3,a3)]:=by intros;rfl):ab c (d+1) (.ref f) [v0,v1,v2,v3] V Q:=by
 rw[←KT]at hf ok;exact lj hf hd hb ok hbind h
theorem bJ(KT:HK c){a:Addr}(h:keepIn (Hp c.w.params) (.ref a)=true):pD c (.ref a):=by show keepIn c.K (.ref a)=true;rw[KT];exact h
theorem oR{x:Str}{v:Value}(KT:HK c)(K:aQ env ns)(hk:ns.lookup x=some .globalImplicit)(hp:bk x=true)(hv:nsIn (Hp c.w.params) mainGlobals x=some (some v))(h:Q (er v) V):E c d env l (.Name x p) V Q:=
 BG K hk hp (by rw[KT];exact hv) h
theorem oS{x:Str}{v:Value}(KT:HK c)(K:aQ env ns)(hk:ns.lookup x=some .globalImplicit)(hp:bk x=true)(hn:nsIn (Hp c.w.params) mainGlobals x=some none)(hv:bootBuiltins x=some v)(h:Q (er v) V):E c d env l (.Name x p) V Q:=
 BH K hk hp (by rw[KT];exact hn) hv h
theorem wW{x:Str}{es:List Expr}{pf:Pos}{a:Addr}(KT:HK c)(K:aQ env ns)(hk:ns.lookup x=some .globalImplicit)(hp:bk x=true)(hv:nsIn (Hp c.w.params) mainGlobals x=some (some (.ref a)))
  (hkp:keepIn (Hp c.w.params) (.ref a)=true) (h:Es c d env l p es V (uu c d (.ref a) Q)) (hs:es.all aY=true)
  (he:eval (.Call (.Name x pf) es [] p) env=(do callWith p (←eval (.Name x pf) env) [] (backTo p (starEach es env)) [])):E c d env l (.Call (.Name x pf) es [] p) V Q:=
 qK (oR KT K hk hp hv ⟨bJ KT hkp,h⟩) hs he
theorem r9{x:Str}{es:List Expr}{pf:Pos}{i:String}(KT:HK c)(K:aQ env ns)(hk:ns.lookup x=some .globalImplicit)(hp:bk x=true)(hn:nsIn (Hp c.w.params) mainGlobals x=some none)(hv:bootBuiltins x=some (.builtin i))
  (h:Es c d env l p es V (uu c d (.builtin i) Q)) (hs:es.all aY=true)
  (he:eval (.Call (.Name x pf) es [] p) env=(do callWith p (←eval (.Name x pf) env) [] (backTo p (starEach es env)) [])):E c d env l (.Call (.Name x pf) es [] p) V Q:=
 qK (oS KT K hk hp hn hv ⟨trivial,h⟩) hs he
theorem wX{x:Str}{es:List Expr}{pf:Pos}{i:String}(KT:HK c)(K:aQ env ns)(hk:ns.lookup x=some .globalImplicit)(hp:bk x=true)(hn:nsIn (Hp c.w.params) mainGlobals x=some none)(hv:bootBuiltins x=some (.type i))
  (h:Es c d env l p es V (uu c d (.type i) Q)) (hs:es.all aY=true)
  (he:eval (.Call (.Name x pf) es [] p) env=(do callWith p (←eval (.Name x pf) env) [] (backTo p (starEach es env)) [])):E c d env l (.Call (.Name x pf) es [] p) V Q:=
 qK (oS KT K hk hp hn hv ⟨trivial,h⟩) hs he
theorem zx{t e1 e2:Expr}{body:List Stmt}{pc pf:Pos}(KT:HK c)(K:aQ env ns)(hk:ns.lookup ("zip":Str)=some .globalImplicit)
  (h:E c d env l e1 V fun v V2=>E c d env l e2 V2 fun w V3=>∃a b xs ys,v= .ref a/\w= .ref b/\rd V3 a=some (.list xs)/\rd V3 b=some (.list ys)/\sU c d env t body a b 0 l V3 QF)
  (hs:∀x,foldedSetIterable (.Call (.Name ("zip":Str) pf) [e1,e2] [] pc) env x=pure x) (hn:aY e1=true) (hn2:aY e2=true) (he:eval (.Call (.Name ("zip":Str) pf) [e1,e2] [] pc) env=(do callWith pc (←eval (.Name ("zip":Str) pf) env) [] (backTo pc (starEach [e1,e2] env)) [])):
  S c d env l (.For t (.Call (.Name ("zip":Str) pf) [e1,e2] [] pc) body [] p) V QF:=
 um (oS KT K hk (by decide+kernel) (BK _) y8 ⟨rfl,h⟩) hs hn hn2 he
theorem zy{t e:Expr}{body:List Stmt}{pc pf:Pos}(KT:HK c)(K:aQ env ns)(hk:ns.lookup ("reversed":Str)=some .globalImplicit)
  (h:E c d env l e V fun v V2=>∃a vs,v= .ref a/\rd V2 a=some (.list vs)/\mx c d env t body (.rev a vs.length) 0 l V2 QF)
  (hs:∀x,foldedSetIterable (.Call (.Name ("reversed":Str) pf) [e] [] pc) env x=pure x) (hn:aY e=true) (he:eval (.Call (.Name ("reversed":Str) pf) [e] [] pc) env=(do callWith pc (←eval (.Name ("reversed":Str) pf) env) [] (backTo pc (starEach [e] env)) [])):S c d env l (.For t (.Call (.Name ("reversed":Str) pf) [e] [] pc) body [] p) V QF:=
 ul (oS KT K hk (by decide+kernel) (qT _) pV ⟨rfl,h⟩) hs hn he
theorem sb{o:Expr}{m:Str}{es:List Expr}{ap:Pos}
  (h:E c d env l o V (DA c d m (C9 c d env l p es Q)))
  (hs:es.all aY=true) (hb:attributeBase o m env (eval o env)=eval o env) (hline:(ap.endLine==p.line)=true) (hn:decide (es.length<30)=true):
  E c d env l (.Call (.Attribute o m ap) es [] p) V Q:=yM h hs hb hline hn
theorem Db{x:Str}(h:iI ns x=true):Co (ns.lookup x)=true/\bk x=true:=by unfold iI at h;rwa [Bool.and_eq_true]at h
theorem lq{x:Str}{v:Value}(K:aQ env ns)(hk:iI ns x=true)(hv:l.lookup x=some v)(h:Q v V):E c d env l (.Name x p) V Q:=BF K (Db hk).1 (Db hk).2 hv h
theorem zA{a b:Expr}{op:Operator}(h:E c d env l a V (k2 c d env l b (binaryOp op) Q)):E c d env l (.BinOp a op b p) V Q:=yg h
theorem BV{a:Expr}{op:UnaryOp}(h:E c d env l a V (C7 c d (unaryOp op) Q)):E c d env l (.UnaryOp op a p) V Q:=CB h
theorem zB{a b:Expr}{op:CmpOp}(h:E c d env l a V (k2 c d env l b (compareOp op) Q))(hm:behindInMarks op b=false):E c d env l (.Compare a [op] [b] p) V Q:=Bp h hm
theorem BW{t a b:Expr}(h:T c d env l t V (sV c d env l a b Q)):E c d env l (.IfExp t a b p) V Q:=CC h
theorem zC{a b:Expr}(h:E c d env l a V (BQ c d env l b Q)):E c d env l (.BoolOp .And [a,b] p) V Q:=Bq h
theorem BX{a b:Expr}(h:E c d env l a V (Dx c d env l b Q)):E c d env l (.BoolOp .Or [a,b] p) V Q:=CD h
theorem wY{a b b':Expr}{r:List Expr}(h:E c d env l a V (BQ c d env l (.BoolOp .And (b::b'::r) p) Q)):E c d env l (.BoolOp .And (a::b::b'::r) p) V Q:=yJ h
theorem zD{a:Expr}(h:T c d env l a V (CF QB)):T c d env l (.UnaryOp .Not a p) V QB:=Br h
theorem zE{a:Expr}{r:List Expr}(h:T c d env l a V (qc c d env l r p QB)):T c d env l (.BoolOp .And (a::r) p) V QB:=yK h
theorem BY{a:Expr}{r:List Expr}(h:T c d env l a V (ut c d env l r p QB)):T c d env l (.BoolOp .Or (a::r) p) V QB:=Bs h
theorem zF{a b:Expr}{op:CmpOp}(h:E c d env l a V (k2 c d env l b (compareOp op) (C8 c d QB)))(hm:behindInMarks op b=false):T c d env l (.Compare a [op] [b] p) V QB:=Bt h hm
theorem qd{e:Expr}(h:E c d env l e V (C8 c d QB))(he:isTrue e env (eval e env)=(do let v←eval e env;standAt e.pos;holding [v] (truthy v))):T c d env l e V QB:=v8 h he
theorem uv{e:Expr}{r:List Expr}{QL:List Value->St->Prop}(hs:aY e=true)(h:E c d env l e V (Dy c d env l pos r QL)):Es c d env l pos (e::r) V QL:=eF hs h
theorem se{x:Str}{v:Value}{r:List Expr}{QL:List Value->St->Prop}(K:aQ env ns)(hk:iI ns x=true)(hv:l.lookup x=some v)(h:Es c d env l pos r V (yq QL v)):Es c d env l pos (.Name x p::r) V QL:=eF rfl (lq K hk hv h)
abbrev CQ(QL:List Value->St->Prop):Value->St->Prop:=fun v V=>QL [v] V
theorem q8{e:Expr}{QL:List Value->St->Prop}(hs:aY e=true)(h:E c d env l e V (CQ QL)):Es c d env l pos [e] V QL:=eF hs (h.mono fun _ _ q=>cN q)
theorem wZ{x:Str}{v:Value}{QL:List Value->St->Prop}(K:aQ env ns)(hk:iI ns x=true)(hv:l.lookup x=some v)(h:QL [v] V):Es c d env l pos [.Name x p] V QL:=q8 rfl (lq K hk hv h)
theorem w6{v:Expr}{a:Str}(h:E c d env l v V (C7 c d (fun o=>getAttr o a true) Q))(hb:attributeBase v a env (eval v env)=eval v env):E c d env l (.Attribute v a p) V Q:=tR h hb
theorem w7{x:Str}{v:Value}{a:Str}{px:Pos}(K:aQ env ns)(hk:iI ns x=true)(hv:l.lookup x=some v)(h:J1 c d (fun o=>getAttr o a true) v V Q):E c d env l (.Attribute (.Name x px) a p) V Q:=tR (lq K hk hv h) rfl
theorem w8{x:Str}{v:Value}{m:Str}{es:List Expr}{ap px:Pos}(K:aQ env ns)(hk:iI ns x=true)(hv:l.lookup x=some v)(h:gT c d m v V (C9 c d env l p es Q))
  (hs:es.all aY=true) (hline:(ap.endLine==p.line)=true) (hn:decide (es.length<30)=true):E c d env l (.Call (.Attribute (.Name x px) m ap) es [] p) V Q:=sb (lq K hk hv h) hs rfl hline hn
theorem w9{es:List Expr}(h:Es c d env l p es V (CG Q)):E c d env l (.List es p) V Q:=qJ h
theorem zG{es:List Expr}{n:Nat}(h:Es c d env l p es V (CH Q)):E c d env l (.Tuple es n p) V Q:=yi h
theorem zH{v i:Expr}(h:E c d env l v V (CI c d env l i Q)):E c d env l (.Subscript v i p) V Q:=Bu h
theorem lr{A B:Prop}{i:Decidable (true=true)}(h:A): @ite Prop (true=true) i A B:=by rw[if_pos rfl];exact h
theorem lt{A B:Prop}{i:Decidable (false=true)}(h:B): @ite Prop (false=true) i A B:=by rw[if_neg Bool.false_ne_true];exact h
theorem bu{q A B:Prop}{i:Decidable q}(hq:q)(h:A): @ite Prop q i A B:=by rw[if_pos hq];exact h
theorem bz{q A B:Prop}{i:Decidable q}(hq:¬q)(h:B): @ite Prop q i A B:=by rw[if_neg hq];exact h
theorem zI{a b:Expr}(h:E c d env l a V Q):sV c d env l a b Q true V:=lr h
theorem zJ{a b:Expr}(h:E c d env l b V Q):sV c d env l a b Q false V:=lt h
theorem xb{r:List Expr}(h:QB false V):qc c d env l r p QB false V:=lt h
theorem zK{r:List Expr}(h:T c d env l (.BoolOp .Or r p) V QB):ut c d env l r p QB false V:=lt h
theorem zL{a b:List Stmt}(h:SS c d env l a V QF):qY c d env l a b QF true V:=lr h
theorem uw{a b:List Stmt}(h:SS c d env l b V QF):qY c d env l a b QF false V:=lt h
theorem zM{a b:Expr}{x:Bool}(h:if x=true then E c d env l a V Q else E c d env l b V Q):sV c d env l a b Q x V:=h
theorem zN{b:Expr}{t:Bool}{x:Value}(h:if t=true then E c d env l b V Q else Q x V):yp c d env l b Q x t V:=h
theorem BZ{b:Expr}{t:Bool}{x:Value}(h:if t=true then Q x V else E c d env l b V Q):BP c d env l b Q x t V:=h
theorem xc{r:List Expr}{b:Bool}(h:if b=true then T c d env l (.BoolOp .And r p) V QB else QB false V):qc c d env l r p QB b V:=h
theorem ux{r:List Expr}{b:Bool}(h:if b=true then QB true V else T c d env l (.BoolOp .Or r p) V QB):ut c d env l r p QB b V:=h
theorem jG{a b:List Stmt}{x:Bool}(h:if x=true then SS c d env l a V QF else SS c d env l b V QF):qY c d env l a b QF x V:=h
theorem uy{st:Stmt}{r:List Stmt}(h:S c d env l st V (Da c d env r QF)):SS c d env l (st::r) V QF:=aG h
theorem zO{e:Expr}(h:E c d env l e V (BS QF l)):S c d env l (.Return (some e) p) V QF:=yj h
theorem B0{t:Expr}{a b:List Stmt}(h:T c d env l t V (qY c d env l a b QF)):S c d env l (.If t a b p) V QF:=Bv h
theorem xd{e:Expr}(h:E c d env l e V (DB QF l))(hs:swapsWith e none p.line env=pure false):S c d env l (.Expr e p) V QF:=qL h hs
theorem zP{t v:Expr}(h:E c d env l v V (CJ c d env l t QF))(hs:swapsWith v (some t) p.line env=pure false)(hw:swappedStores [t] v env=pure none)(hn:aY t=true):S c d env l (.Assign [t] v p) V QF:=br h hs hw hn
noncomputable def oT(e:Expr):Bool:=Nat.blt e.ctorIdx 8||Nat.blt 10 e.ctorIdx
theorem uz{v:Expr}{t:Option Expr}{n:Nat}(h:oT v=true):swapsWith v t n env=pure false:=by induction v using mV<;>first|rfl|cases h
theorem uA{x:Str}{v:Expr}{px:Pos}(K:aQ env ns)(hk:rY (ns.lookup x)=true)(h:E c d env l v V (wU QF l x))(hs:oT v=true):S c d env l (.Assign [.Name x px] v p) V QF:=br (h.mono fun _ _ q=>ol K hk q) (uz hs) rfl rfl
theorem zQ{e:Expr}{r:List Stmt}(h:E c d env l e V (BS QF l)):SS c d env l (.Return (some e) p::r) V QF:=aG (yj h)
theorem yr{t:Expr}{a b r:List Stmt}(h:T c d env l t V (qY c d env l a b (Da c d env r QF))):SS c d env l (.If t a b p::r) V QF:=aG (Bv h)
theorem xe{e:Expr}{r:List Stmt}(h:E c d env l e V (CM c d env l r QF))(hs:oT e=true):SS c d env l (.Expr e p::r) V QF:=aG (qL h (uz hs))
theorem zR{x:Str}{v:Expr}{px:Pos}{r:List Stmt}(K:aQ env ns)(hk:rY (ns.lookup x)=true)(h:E c d env l v V (CL c d env l x r QF))(hs:oT v=true):SS c d env l (.Assign [.Name x px] v p::r) V QF:=aG (uA K hk h hs)
theorem zS{t it:Expr}{body:List Stmt}(h:E c d env l it V (CN c d env t body l QF))(hs:∀x,foldedSetIterable it env x=pure x):S c d env l (.For t it body [] p) V QF:=Bw h hs
theorem uB{e t iter:Expr}{ifs:List Expr}{scope:Scope}(K:aQ env ns)(hc:di ns scope=true)(hs:∀x,foldedSetIterable iter env x=pure x)
  (h:E c d env l iter V (nc c d (.lst e) t iter ifs scope p (.l []) l (wV Q))):E c d env l (.ListComp e [⟨t,iter,ifs,0⟩] scope p) V Q:=rZ K hc hs h
theorem uC{ke ve t iter:Expr}{ifs:List Expr}{scope:Scope}(K:aQ env ns)(hc:di ns scope=true)(hs:∀x,foldedSetIterable iter env x=pure x)
  (h:E c d env l iter V (nc c d (.dct ke ve) t iter ifs scope p (.d []) l (wV Q))):E c d env l (.DictComp ke ve [⟨t,iter,ifs,0⟩] scope p) V Q:=wp K hc hs h
theorem uD{e t iter:Expr}{ifs:List Expr}{scope:Scope}{y:Str}{py sp:Pos}(K:aQ env ns)(hy:rY (ns.lookup y)=true)(hc:di ns scope=true)(hs:∀x,foldedSetIterable iter env x=pure x)
  (hy':ns.lookup y=some .local) (hsw:(py.line==p.line&& !(scope.names.any fun(n,k)=>n==y&&(k== .local||k== .cell)))=true)
  (h:E c d env l iter V (nc c d (.lst e) t iter ifs scope p (.l []) l (wV (wU QF l y)))):S c d env l (.Assign [.Name y py] (.ListComp e [⟨t,iter,ifs,0⟩] scope p) sp) V QF:=r7 K hy hc hs hy' hsw h
theorem uE{ke ve t iter:Expr}{ifs:List Expr}{scope:Scope}{y:Str}{py sp:Pos}(K:aQ env ns)(hy:rY (ns.lookup y)=true)(hc:di ns scope=true)(hs:∀x,foldedSetIterable iter env x=pure x)
  (hy':ns.lookup y=some .local) (hsw:(py.line==p.line&& !(scope.names.any fun(n,k)=>n==y&&(k== .local||k== .cell)))=true)
  (h:E c d env l iter V (nc c d (.dct ke ve) t iter ifs scope p (.d []) l (wV (wU QF l y)))):S c d env l (.Assign [.Name y py] (.DictComp ke ve [⟨t,iter,ifs,0⟩] scope p) sp) V QF:=wq K hy hc hs hy' hsw h
theorem uF{x y:Str}{px py pt pv:Pos}{kt kv:Nat}{a b:Expr}(K:aQ env ns)(hp:lh ns x y px py a b=true)(h:E c d env l a V (kP c d env l b x y QF)):
  S c d env l (.Assign [.Tuple [.Name x px,.Name y py] kt pt] (.Tuple [a,b] kv pv) p) V QF:=r8 K hp h
theorem sW{o:Expr}{a:Str}{v:Value}(h:E c d env l o V (DC c d a v l QL)):nY c d env l (.Attribute o a p) v V QL:=aX h
theorem uG{o i:Expr}{v:Value}(h:E c d env l o V (DD c d env l i v QL)):nY c d env l (.Subscript o i p) v V QL:=wd h
end
def Ro(V V':St):Prop:=∀a r,V a=some (.ro r)->V' a=some (.ro r)
def DF(M:List Addr)(V V':St):Prop:=∀a o,a∉M->V a=some o->V' a=some o
structure Le(M:List Addr)(V V':St):Prop where
 ro:Ro V V'
 ext:DF M V V'
theorem Le.refl(M:List Addr)(V:St):Le M V V:=⟨fun _ _ h=>h,fun _ _ _ h=>h⟩
theorem Le.trans{M:List Addr}{V V1 V2:St}(x:Le M V V1)(y:Le M V1 V2):Le M V V2:=⟨fun a r h=>y.ro a r (x.ro a r h),fun a o hm h=>y.ext a o hm (x.ext a o hm h)⟩
theorem Le.mono{M N:List Addr}{V V':St}(x:Le M V V')(h:∀a,a∈M->a∈N):Le N V V':=⟨x.ro,fun a o hm e=>x.ext a o (fun q=>hm (h a q)) e⟩
theorem Le.nil{N:List Addr}{V V':St}(x:Le [] V V'):Le N V V':=x.mono fun _ q=>nomatch q
theorem Le.new{M:List Addr}{V:St}{a:Addr}{o:cq}(h:V a=none):Le M V (V.set a o):=by
 have ne:∀b p,V b=some p->b≠a:=by rintro b p e rfl;rw[h]at e;cases e
 exact⟨fun b r e=>by simp[St.set,ne b _ e,e],fun b p _ e=>by simp[St.set,ne b _ e,e]⟩
theorem Le.upd{M:List Addr}{V:St}{a:Addr}{o o':cq}(hm:a∈M)(h:V a=some o)(hn:∀r,o≠ .ro r):Le M V (V.set a o'):=by
 refine⟨fun b r e=>?_,fun b p hb e=>?_⟩
 ·have:b≠a:=by rintro rfl;rw[h]at e;cases e;exact hn r rfl
  simp[St.set,this,e]
 ·have:b≠a:=fun q=>hb (q▸hm)
  simp[St.set,this,e]
theorem aj(V:St)(a:Addr)(o:cq):(V.set a o) a=some o:=by simp[St.set]
theorem aA(V:St){a b:Addr}(o:cq)(h:b≠a):(V.set a o) b=V b:=by simp[St.set,h]
theorem af{V:St}{a:Addr}{o:cq}(h:V a=some o):rd V a=some o.bare:=by unfold rd;rw[h];rfl
noncomputable def fz(V:St)(a:Addr):St:=match V a with
 |some (.ro _)=>V
 |some o=>V.set a (.ro o)
 |none=>V
noncomputable def cq.isRo:cq->Bool
 | .ro _=>true
 |_=>false
theorem ng{V:St}{a:Addr}{o:cq}(h:V a=some o)(hn:o.isRo=false):fz V a=V.set a (.ro o):=by
 unfold fz;rw[h];induction o<;>first|rfl|cases hn
theorem xf{o:cq}(h:o.isRo=false):o.bare=o:=by induction o<;>first|rfl|cases h
theorem B1{c:Cx}{V:St}{h h0:Heap}{V0:St}{X:Addr->Prop}(a:Addr)(H:bc c V h)(S:bM X V0 h0 V h):bc c (fz V a) h/\bM X V0 h0 (fz V a) h:=by
 induction e:V a with
 |none=>unfold fz;rw[e];exact⟨H,S⟩
 |some o=>
  induction hr:o.isRo with
  |true=>unfold fz;rw[e];induction o<;>first|exact⟨H,S⟩ |cases hr
  |false=>
   rw[ng e hr]
   have key:∀b,(V.set a (.ro o)) b=V b∨(b=a/\(V.set a (.ro o)) b=some (.ro o)):=fun b=>by
    by_cases hb:b=a
    ·subst hb;exact .inr ⟨rfl,aj ..⟩
    ·exact .inl (aA _ _ hb)
   refine⟨⟨fun b ob q=>?_,H.base,fun b ob q=>?_⟩,S.keep,fun b ob q q2=>?_,S.live,fun b r q=>?_⟩
   ·rcases key b with k| ⟨rfl,k⟩
    ·exact H.sim b ob (k▸q)
    ·rw[k]at q;cases q
     have:=H.sim b o e
     unfold tM at this ⊢
     rw[xf hr]at this
     exact this
   ·rcases key b with k| ⟨rfl,k⟩
    ·rw[k];exact H.apart b ob q
    ·exact .inr ⟨o,k⟩
   ·have:=S.dom b ob q q2
    rcases key b with k| ⟨rfl,k⟩
    ·rw[k];exact this
    ·rw[e]at this;cases this
   ·have:=S.ro b r q
    rcases key b with k| ⟨rfl,k⟩
    ·rw[k];exact this
    ·rw[e]at this;cases this;cases hr
noncomputable def fzs(V:St):List Addr->St
 | []=>V
 |a::r=>fzs (fz V a) r
abbrev DG(Q:Value->St->Prop):Value->St->Prop:=fun v V=>∃as,Q v (fzs V as)
theorem lu{c:Cx}{h h0:Heap}{V0:St}{X:Addr->Prop}:∀(as:List Addr) {V:St},bc c V h->bM X V0 h0 V h->bc c (fzs V as) h/\bM X V0 h0 (fzs V as) h
 | [],V,H,S=>⟨H,S⟩
 |a::r,V,H,S=>let ⟨H1,S1⟩:=B1 a H S;lu r H1 S1
theorem Le.fz{M:List Addr}{V0 V:St}{a:Addr}(L:Le M V0 V)(h:V0 a=none∨a∈M):Le M V0 (fz V a):=by
 induction e:V a with
 |none=>unfold Mine.fz;rw[e];exact L
 |some o=>
  induction hr:o.isRo with
  |true=>unfold Mine.fz;rw[e];induction o<;>first|exact L|cases hr
  |false=>
   rw[ng e hr]
   refine⟨fun b r q=>?_,fun b p hm q=>?_⟩
   ·have:=L.ro b r q
    have hb:b≠a:=by rintro rfl;rw[e]at this;cases this;cases hr
    rw[aA _ _ hb];exact this
   ·have hb:b≠a:=by
     rintro rfl
     rcases h with h|h
     ·rw[h]at q;cases q
     ·exact hm h
    rw[aA _ _ hb];exact L.ext b p hm q
section
variable{c:Cx}{d:Nat}{env:Env}{l:au}{V:St}{p pos:Pos}{Q:Value->St->Prop}{QB:Bool->St->Prop}{QF:Fl->au->St->Prop}{QL:au->St->Prop}{ns:List (Str×NameKind)}
theorem ab.frz{f:Value}{vs:List Value}(h:ab c d f vs V (DG Q)):ab c d f vs V Q:=fun rvs e A s R' R H k=>
 h rvs e A s R' R H fun v h' tk V' H' S q=>let ⟨as,q⟩:=q;let ⟨H2,S2⟩:=lu as H' S;k v h' tk _ H2 S2 q
theorem E.frz{e:Expr}(h:E c d env l e V fun v V'=>∃as,Q v (fzs V' as)):E c d env l e V Q:=fun A s Q' E' R H F k=>
 h A s Q' E' R H F fun v h' tk V' H' S q=>let ⟨as,q⟩:=q;let ⟨H2,S2⟩:=lu as H' S;k v h' tk _ H2 S2 q
theorem ab.deeper{f:Value}{vs:List Value}{d':Nat}(h:ab c d f vs V Q)(hd:d<=d'):ab c d' f vs V Q:=fun rvs e A s R' R H k=>h rvs e A s R' (R.le hd) H k
end
def IA(V:St)(v:Value)(C:Addr)(fs:List (Str×Value)):Prop:=∃x dx,v= .ref x/\V x=some (.ro (.inst C dx))/\V dx=some (.ro (.attr fs))
theorem IA.mono{V V':St}{v:Value}{C:Addr}{fs:List (Str×Value)}(h:IA V v C fs)(L:Ro V V'):IA V' v C fs:=by obtain⟨x,dx,e,h1,h2⟩:=h;exact⟨x,dx,e,L _ _ h1,L _ _ h2⟩
section
variable{c:Cx}{d:Nat}{V:St}{Q:Value->St->Prop}
theorem d8(KT:HK c){C:Addr}(h:dC (Hp c.w.params) C=true):iG c.K C:=by rw[KT];exact .of h
theorem ao{v w:Value}{C:Addr}{fs:List (Str×Value)}{a:Str}{b:Bool}(h:IA V v C fs)(KT:HK c)(hC:dC (Hp c.w.params) C=true)(ha:aI (Hp c.w.params) C a=true)(hv:fs.lookup a=some w)(hh:handedIn w=true)(hq:Q w V):J1 c d (fun o=>getAttr o a b) v V Q:=by
 refine dl h fun x dx z2 h1 h2=>?_;subst z2
 exact n7 (af h1) (af h2) hv (d8 KT hC) (by rw[KT];exact ha) hh hq b
inductive ai where
 |var (x:Str)
 |lit (i:Int)
 |prim (op:Str) (as:List ai)
 |con (x:Str) (as:List ai)
 |lam (ps:List Str) (b:ai)
 |app (f:ai) (as:List ai)
 |case (v:ai) (x:Str) (alts:List (Int×ai)) (o:Option ai)
 |letn (bs:List (Str×ai)) (b:ai) (r:Bool)
theorem ai.cs{P:ai->Prop}(t:ai)(var:∀x,P (.var x))(lit:∀i,P (.lit i))(prim:∀op as,P (.prim op as))(con:∀x as,P (.con x as))(lam:∀ps b,P (.lam ps b))(app:∀f as,P (.app f as))(case:∀e x alts o,P (.case e x alts o))(letn:∀bs b r,P (.letn bs b r)):P t:=
 ai.casesOn (motive_1:=P) t var lit prim con lam app case letn
noncomputable def bh:ai->Addr
 | .var _=>59
 | .lit _=>101
 | .prim .. =>362
 | .con .. =>322
 | .lam .. =>183
 | .app .. =>141
 | .case .. =>282
 | .letn .. =>221
noncomputable def aJ(x:Str):Value:= .str x 0
def Rp:Nat->St->Value->ai->Prop
 |0,_,_,_=>False
 |n+1,V,v,.var x=>IA V v 59 [("name",.str x 0)]
 |n+1,V,v,.lit i=>IA V v 101 [("kind",.str "int" 0),("value",.int i 0)]
 |n+1,V,v,.prim op as=>∃a vs,IA V v 362 [("op",.str op 0),("args",.ref a)]/\V a=some (.ro (.list vs))/\PySem.Paired (Rp n V) vs as
 |n+1,V,v,.con x as=>∃a vs,IA V v 322 [("name",.str x 0),("args",.ref a)]/\V a=some (.ro (.list vs))/\PySem.Paired (Rp n V) vs as
 |n+1,V,v,.lam ps b=>∃a bv,IA V v 183 [("params",.ref a),("body",bv)]/\V a=some (.ro (.list (ps.map aJ)))/\Rp n V bv b
 |n+1,V,v,.app f as=>∃fv a vs,IA V v 141 [("fun",fv),("args",.ref a)]/\Rp n V fv f/\V a=some (.ro (.list vs))/\PySem.Paired (Rp n V) vs as
 |n+1,V,v,.case e x alts o=>∃ev a avs ov,IA V v 282 [("value",ev),("name",.str x 0),("alts",.ref a),("other",ov)]/\Rp n V ev e/\V a=some (.ro (.list avs))/\
   PySem.Paired (fun av (p:Int×ai)=>∃ka na bv,IA V av 242 [("key",.ref ka),("names",.ref na),("body",bv)]/\V ka=some (.ro (.tup [.str "lit" 0,.str "int" 0,.int p.1 0]))/\V na=some (.ro (.list []))/\Rp n V bv p.2) avs alts/\
   (match o with|none=>ov= .none|some t=>Rp n V ov t)
 |n+1,V,v,.letn bs b r=>∃a pvs bv,IA V v 221 [("binds",.ref a),("body",bv),("is_rec",.bool r)]/\V a=some (.ro (.list pvs))/\
   PySem.Paired (fun pv (p:Str×ai)=>∃q tv,pv= .ref q/\V q=some (.ro (.tup [.str p.1 0,tv]))/\Rp n V tv p.2) pvs bs/\Rp n V bv b
theorem Paired.imp{α β:Type}{R S:α->β->Prop}(h:∀a b,R a b->S a b){xs:List α}{ys:List β}(p:PySem.Paired R xs ys):PySem.Paired S xs ys:=by
 induction p with
 |nil=>exact .nil
 |cons x _ ih=>exact .cons (h _ _ x) ih
theorem Rp.mono{V V':St}(L:Ro V V'):∀{n:Nat} {v:Value} {t:ai},Rp n V v t->Rp n V' v t:=by
 intro n
 induction n with
 |zero=>intro v t h;exact h.elim
 |succ n ih=>
  intro v t h
  have ih':∀a b,Rp n V a b->Rp n V' a b:=fun _ _ h=>ih h
  induction t using ai.cs with
  |var x=>exact IA.mono h L
  |lit i=>exact IA.mono h L
  |prim op as=>obtain⟨a,vs,h1,h2,h3⟩:=h;exact⟨a,vs,h1.mono L,L _ _ h2,Paired.imp ih' h3⟩
  |con x as=>obtain⟨a,vs,h1,h2,h3⟩:=h;exact⟨a,vs,h1.mono L,L _ _ h2,Paired.imp ih' h3⟩
  |lam ps b=>obtain⟨a,bv,h1,h2,h3⟩:=h;exact⟨a,bv,h1.mono L,L _ _ h2,ih h3⟩
  |app f as=>obtain⟨fv,a,vs,h1,h2,h3,h4⟩:=h;exact⟨fv,a,vs,h1.mono L,ih h2,L _ _ h3,Paired.imp ih' h4⟩
  |case e x alts o=>
   refine rO h fun ev a avs ov h1 h2 h3 h4 h5=>?_
   refine⟨ev,a,avs,ov,h1.mono L,ih h2,L _ _ h3,Paired.imp (fun _ _ h=>?_) h4,?_⟩
   ·obtain⟨ka,na,bv,g1,g2,g3,g4⟩:=h;exact⟨ka,na,bv,g1.mono L,L _ _ g2,L _ _ g3,ih g4⟩
   ·induction o with
    |none=>exact h5
    |some t=>exact ih h5
  |letn bs b r=>
   obtain⟨a,pvs,bv,h1,h2,h3,h4⟩:=h
   refine⟨a,pvs,bv,h1.mono L,L _ _ h2,Paired.imp (fun _ _ h=>?_) h3,ih h4⟩
   obtain⟨q,tv,g1,g2,g3⟩:=h;exact⟨q,tv,g1,L _ _ g2,ih g3⟩
theorem Rp.up1{V:St}:∀{n:Nat} {v:Value} {t:ai},Rp n V v t->Rp (n+1) V v t:=by
 intro n
 induction n with
 |zero=>intro v t h;exact h.elim
 |succ n ih=>
  intro v t h
  have ih':∀a b,Rp n V a b->Rp (n+1) V a b:=fun _ _ h=>ih h
  induction t using ai.cs with
  |var x=>exact h
  |lit i=>exact h
  |prim op as=>obtain⟨a,vs,h1,h2,h3⟩:=h;exact⟨a,vs,h1,h2,Paired.imp ih' h3⟩
  |con x as=>obtain⟨a,vs,h1,h2,h3⟩:=h;exact⟨a,vs,h1,h2,Paired.imp ih' h3⟩
  |lam ps b=>obtain⟨a,bv,h1,h2,h3⟩:=h;exact⟨a,bv,h1,h2,ih h3⟩
  |app f as=>obtain⟨fv,a,vs,h1,h2,h3,h4⟩:=h;exact⟨fv,a,vs,h1,ih h2,h3,Paired.imp ih' h4⟩
  |case e x alts o=>
   refine rO h fun ev a avs ov h1 h2 h3 h4 h5=>?_
   refine⟨ev,a,avs,ov,h1,ih h2,h3,Paired.imp (fun _ _ h=>?_) h4,?_⟩
   ·obtain⟨ka,na,bv,g1,g2,g3,g4⟩:=h;exact⟨ka,na,bv,g1,g2,g3,ih g4⟩
   ·induction o with
    |none=>exact h5
    |some t=>exact ih h5
  |letn bs b r=>
   obtain⟨a,pvs,bv,h1,h2,h3,h4⟩:=h
   refine⟨a,pvs,bv,h1,h2,Paired.imp (fun _ _ h=>?_) h3,ih h4⟩
   obtain⟨q,tv,g1,g2,g3⟩:=h;exact⟨q,tv,g1,g2,ih g3⟩
theorem Rp.up{V:St}{n:Nat}{v:Value}{t:ai}(h:Rp n V v t){m:Nat}(hm:n<=m):Rp m V v t:=by
 induction hm with
 |refl=>exact h
 |step _ ih=>exact ih.up1
theorem Rp.ia{n:Nat}{v:Value}{t:ai}(h:Rp n V v t):∃fs,IA V v (bh t) fs:=by
 induction n using dQ with
 |zero=>exact h.elim
 |succ n=>
  induction t using ai.cs with
  |var x=>exact⟨_,h⟩
  |lit i=>exact⟨_,h⟩
  |prim op as=>obtain⟨a,vs,h1,_⟩:=h;exact⟨_,h1⟩
  |con op as=>obtain⟨a,vs,h1,_⟩:=h;exact⟨_,h1⟩
  |lam ps b=>obtain⟨a,vs,h1,_⟩:=h;exact⟨_,h1⟩
  |app f as=>obtain⟨fv,a,vs,h1,_⟩:=h;exact⟨_,h1⟩
  |case e x alts o=>obtain⟨ev,a,avs,ov,h1,_⟩:=h;exact⟨_,h1⟩
  |letn bs b r=>obtain⟨a,pvs,bv,h1,_⟩:=h;exact⟨_,h1⟩
noncomputable def dz:List Addr:=[59,101,362,322,183,141,282,221]
theorem io(t:ai):bh t∈dz:=by cases t<;>exact List.mem_of_elem_eq_true rfl
noncomputable def zT(K:Frag):Bool:=dz.all fun C=>dz.all fun D=>kitOne K (.ref C) (.ref D)==some (C==D)
theorem xg(P:Params):zT (Hp P)=true:=by kernel_rfl
noncomputable def zU(K:Frag):Bool:=dz.all fun C=>dC K C
theorem xh(P:Params):zU (Hp P)=true:=by kernel_rfl
theorem uH(P:Params){C D:Addr}(hC:C∈dz)(hD:D∈dz):kitOne (Hp P) (.ref C) (.ref D)=some (C==D):=by
 have:=List.all_eq_true.mp (List.all_eq_true.mp (xg P) C hC) D hD
 exact beq_iff_eq.mp this
theorem uI(P:Params){C:Addr}(hC:C∈dz):dC (Hp P) C=true:=List.all_eq_true.mp (xh P) C hC
theorem d9{n:Nat}{v:Value}{t:ai}{D:Addr}(KT:HK c)(h:Rp n V v t)(hD:dz.contains D=true)(hq:Q (.bool (bh t==D)) V):Calls c d (.builtin "isinstance") [v,.ref D] V Q:=by
 refine nU h.ia fun fs x dx z3 h1 h2=>?_;subst z3
 exact uk (af h1) (af h2) (d8 KT (uI _ (io t))) (by rw[KT];exact uH _ (io t) (by simpa using hD)) hq
theorem az{n:Nat}{v:Value}{t:ai}{D:Addr}{b:Bool}(KT:HK c)(h:Rp n V v t)(hD:dz.contains D=true)(he:(bh t==D)=b)(hq:Q (.bool b) V):Calls c d (.builtin "isinstance") [v,.ref D] V Q:=d9 KT h hD (he.symm▸hq)
theorem B2{n:Nat}{x g:Str}{v:Value}{t:ai}{D:Addr}{b:Bool}{pf px pg:Pos}(KT:HK c)(K:aQ env ns)(hi:ns.lookup ("isinstance":Str)=some .globalImplicit)(hk:iI ns x=true)(hv:l.lookup x=some v)(h:Rp n V v t)(hg:ns.lookup g=some .globalImplicit)(hp:bk g=true)(hG:nsIn (Hp c.w.params) mainGlobals g=some (some (.ref D)))(hD:dz.contains D=true)(he:(bh t==D)=b)(hr:QB b V):
  T c d env l (.Call (.Name ("isinstance":Str) pf) [.Name x px,.Name g pg] [] p) V QB:=
 qd (r9 KT K hi (by decide+kernel) (bt _ _ (by kernel_rfl)) C5.1 (se K hk hv (q8 rfl (oR KT K hg hp hG (az KT h hD he (fg hr))))) rfl rfl) rfl
theorem B3{n:Nat}{x g:Str}{v:Value}{t:ai}{D:Addr}{pf px pg:Pos}(KT:HK c)(K:aQ env ns)(hi:ns.lookup ("isinstance":Str)=some .globalImplicit)(hk:iI ns x=true)(hv:l.lookup x=some v)(h:Rp n V v t)(hg:ns.lookup g=some .globalImplicit)(hp:bk g=true)(hG:nsIn (Hp c.w.params) mainGlobals g=some (some (.ref D)))(hD:dz.contains D=true)(he:(bh t==D)=false)(hr:QB false V):
  T c d env l (.Call (.Name ("isinstance":Str) pf) [.Name x px,.Name g pg] [] p) V QB:=B2 KT K hi hk hv h hg hp hG hD he hr
theorem zV{n:Nat}{x g:Str}{v:Value}{t:ai}{D:Addr}{body r:List Stmt}{pf px pg pc:Pos}(KT:HK c)(K:aQ env ns)(hi:ns.lookup ("isinstance":Str)=some .globalImplicit)(hk:iI ns x=true)(hv:l.lookup x=some v)(h:Rp n V v t)(hg:ns.lookup g=some .globalImplicit)(hp:bk g=true)(hG:nsIn (Hp c.w.params) mainGlobals g=some (some (.ref D)))(hD:dz.contains D=true)(he:(bh t==D)=false)(hr:SS c d env l r V QF):
  SS c d env l (.If (.Call (.Name ("isinstance":Str) pf) [.Name x px,.Name g pg] [] pc) body [] p::r) V QF:=yr (B2 KT K hi hk hv h hg hp hG hD he (uw (dm hr)))
theorem oU{n:Nat}{v:Value}{t:ai}{a:Addr}{Ds:List Addr}(KT:HK c)(h:Rp n V v t)(ha:rd V a=some (.tup (Ds.map .ref)))(hD:Ds.all (dz.contains ·)=true)(hq:Q (.bool (Ds.any (bh t== ·))) V):Calls c d (.builtin "isinstance") [v,.ref a] V Q:=by
 refine nU h.ia fun fs x dx z3 h1 h2=>?_;subst z3
 refine sQ (af h1) (af h2) (d8 KT (uI _ (io t))) ha (by induction Ds with|nil=>rfl|cons _ _ ih=>simp[uj]) ?_ hq
 rw[KT]
 clear ha hq
 induction Ds with
 |nil=>rfl
 |cons D r ih=>
  rw[List.all_cons,Bool.and_eq_true]at hD
  rw[List.map_cons]
  unfold kitAny
  rw[uH _ (io t) (by simpa using hD.1),List.any_cons]
  cases bh t==D with
  |true=>rfl
  |false=>exact ih hD.2
end
noncomputable def eV(V:St)(x dx C:Addr)(fs:List (Str×Value)):St:=(V.set dx (.attr fs)).set x (.inst C dx)
theorem aV{l:au}{x:Str}{v:Value}{n:Nat}(h:l.length<=n):(eW l x v).length<=n+1:=Nat.le_trans (rR l x v) (Nat.succ_le_succ h)
theorem lw{V:St}{x dx C:Addr}{fs:List (Str×Value)}:eV V x dx C fs x=some (.inst C dx):=aj ..
theorem nh{V:St}{x dx C:Addr}{fs:List (Str×Value)}(h:x≠dx):eV V x dx C fs dx=some (.attr fs):=by
 unfold eV;rw[aA _ _ (Ne.symm h),aj]
theorem xi{V:St}{x dx C:Addr}{fs gs:List (Str×Value)}(h:x≠dx):(eV V x dx C fs).set dx (.attr gs)=eV V x dx C gs:=by
 funext b
 unfold eV St.set
 by_cases h1:b=dx
 ·subst h1;have:¬b=x:=fun e=>h e.symm
  simp[this]
 ·simp[h1]
theorem uJ{M:List Addr}{V:St}{x dx C:Addr}{fs:List (Str×Value)}(hx:V x=none)(hd:V dx=none)(hne:x≠dx):Le M V (eV V x dx C fs):=
 (Le.new hd).trans (Le.new (by rw[aA _ _ hne];exact hx))
theorem xj{V:St}{x dx C:Addr}{fs:List (Str×Value)}(hne:x≠dx):fzs (eV V x dx C fs) [x,dx]=((eV V x dx C fs).set x (.ro (.inst C dx))).set dx (.ro (.attr fs)):=by
 show fz (fz _ x) dx=_
 rw[ng (o:= .inst C dx) lw rfl,ng (o:= .attr fs) (by rw[aA _ _ (Ne.symm hne)];exact nh hne) rfl]
theorem eZ{V:St}{x dx C:Addr}{fs:List (Str×Value)}(hne:x≠dx):IA (fzs (eV V x dx C fs) [x,dx]) (.ref x) C fs:=by
 rw[xj hne]
 exact⟨x,dx,rfl,by rw[aA _ _ hne,aj],aj ..⟩
theorem dK{M:List Addr}{V:St}{x dx C:Addr}{fs:List (Str×Value)}(hx:V x=none)(hd:V dx=none)(hne:x≠dx):Le M V (fzs (eV V x dx C fs) [x,dx]):=
 ((uJ hx hd hne).fz (.inl hx)).fz (.inl hd)
section
variable{c:Cx}{d:Nat}{env:Env}{l:au}{V:St}{p pos:Pos}{Q:Value->St->Prop}
theorem bE{x dx C:Addr}{fs:List (Str×Value)}{a:Str}{v:Value}{QS:St->Prop}(hne:x≠dx)(KT:HK c)(hC:dC (Hp c.w.params) C=true)(ha:aI (Hp c.w.params) C a=true)(hz:fs.length<=1000)
  (h:QS (eV V x dx C (eW fs a v))):tS c d (fun o v=>setAttr o a v) (.ref x) v (eV V x dx C fs) QS:=
 kC (af (o:= .inst C dx) lw) (nh hne) (d8 KT hC) (by rw[KT];exact ha) hz (by rw[xi hne];exact h)
theorem B4(KT:HK c){v0:Value}(h:∀x dx,V x=none->V dx=none->x≠dx->Q (.ref x) (eV V x dx 59 [("name",v0)])):ab c (d+2) (.ref 59) [v0] V Q:=by
 refine fR (d8 KT (dE _)) (by rw[KT];exact zv _) (by rw[KT];exact zw _) (fun x dx hx hd hne=>?_)
 refine qS (x0:="self") (x1:="name") (by rw[KT];rfl) rfl rfl (by rw[KT];kernel_rfl) (fun b0 b1=>by rfl) ?_
 intro env K
 try dsimp only at K
 show SS c d env _ _ (eV V x dx 59 []) _
 refine aG (br ?_ rfl rfl rfl)
 walk_at "me"
 refine aX ?_
 walk_at "me"
 refine bE hne KT (dE _) (bT _) (Nat.le_trans (Nat.le_refl 0) (by decide)) ?_
 dsimp only
 exact dm ⟨rfl,h x dx hx hd hne⟩
theorem iJ(KT:HK c){v0:Value}(h:∀v V',Le [] V V'->IA V' v 59 [("name",v0)]->Q v V'):ab c (d+2) (.ref 59) [v0] V Q:=
 ab.frz (B4 KT fun x dx hx hd hne=>⟨[x,dx],h _ _ (dK hx hd hne) (eZ hne)⟩)
theorem zW(KT:HK c){v0 v1:Value}(h:∀x dx,V x=none->V dx=none->x≠dx->Q (.ref x) (eV V x dx 101 [("kind",v0),("value",v1)])):ab c (d+2) (.ref 101) [v0,v1] V Q:=by
 refine fR (d8 KT (dX _)) (by rw[KT];exact wr _) (by rw[KT];exact wu _) (fun x dx hx hd hne=>?_)
 refine jD (x0:="self") (x1:="kind") (x2:="value") (by rw[KT];rfl) rfl rfl (by rw[KT];kernel_rfl) (fun b0 b1 b2=>by rfl) ?_
 intro env K
 try dsimp only at K
 show SS c d env _ _ (eV V x dx 101 []) _
 refine aG (br ?_ rfl rfl rfl)
 walk_at "me"
 refine aX ?_
 walk_at "me"
 refine bE hne KT (dX _) (fS _) (Nat.le_trans (Nat.le_refl 0) (by decide)) ?_
 dsimp only
 refine aG (br ?_ rfl rfl rfl)
 walk_at "me"
 refine aX ?_
 walk_at "me"
 refine bE hne KT (dX _) (fk _) (Nat.le_trans (aV (Nat.le_refl 0)) (by decide)) ?_
 dsimp only
 exact dm ⟨rfl,h x dx hx hd hne⟩
theorem q9(KT:HK c){v0 v1:Value}(h:∀v V',Le [] V V'->IA V' v 101 [("kind",v0),("value",v1)]->Q v V'):ab c (d+2) (.ref 101) [v0,v1] V Q:=
 ab.frz (zW KT fun x dx hx hd hne=>⟨[x,dx],h _ _ (dK hx hd hne) (eZ hne)⟩)
theorem zX(KT:HK c){v0 v1:Value}(h:∀x dx,V x=none->V dx=none->x≠dx->Q (.ref x) (eV V x dx 141 [("fun",v0),("args",v1)])):ab c (d+2) (.ref 141) [v0,v1] V Q:=by
 refine fR (d8 KT (aS _)) (by rw[KT];exact wv _) (by rw[KT];exact ww _) (fun x dx hx hd hne=>?_)
 refine jD (x0:="self") (x1:="fun") (x2:="args") (by rw[KT];rfl) rfl rfl (by rw[KT];kernel_rfl) (fun b0 b1 b2=>by rfl) ?_
 intro env K
 try dsimp only at K
 show SS c d env _ _ (eV V x dx 141 []) _
 refine aG (br ?_ rfl rfl rfl)
 walk_at "me"
 refine aX ?_
 walk_at "me"
 refine bE hne KT (aS _) (aU _) (Nat.le_trans (Nat.le_refl 0) (by decide)) ?_
 dsimp only
 refine aG (br ?_ rfl rfl rfl)
 walk_at "me"
 refine aX ?_
 walk_at "me"
 refine bE hne KT (aS _) (bH _) (Nat.le_trans (aV (Nat.le_refl 0)) (by decide)) ?_
 dsimp only
 exact dm ⟨rfl,h x dx hx hd hne⟩
theorem lz(KT:HK c){v0 v1:Value}(h:∀v V',Le [] V V'->IA V' v 141 [("fun",v0),("args",v1)]->Q v V'):ab c (d+2) (.ref 141) [v0,v1] V Q:=
 ab.frz (zX KT fun x dx hx hd hne=>⟨[x,dx],h _ _ (dK hx hd hne) (eZ hne)⟩)
theorem zY(KT:HK c){v0 v1:Value}(h:∀x dx,V x=none->V dx=none->x≠dx->Q (.ref x) (eV V x dx 183 [("params",v0),("body",v1)])):ab c (d+2) (.ref 183) [v0,v1] V Q:=by
 refine fR (d8 KT (bP _)) (by rw[KT];exact wx _) (by rw[KT];exact wy _) (fun x dx hx hd hne=>?_)
 refine jD (x0:="self") (x1:="params") (x2:="body") (by rw[KT];rfl) rfl rfl (by rw[KT];kernel_rfl) (fun b0 b1 b2=>by rfl) ?_
 intro env K
 try dsimp only at K
 show SS c d env _ _ (eV V x dx 183 []) _
 refine aG (br ?_ rfl rfl rfl)
 walk_at "me"
 refine aX ?_
 walk_at "me"
 refine bE hne KT (bP _) (bB _) (Nat.le_trans (Nat.le_refl 0) (by decide)) ?_
 dsimp only
 refine aG (br ?_ rfl rfl rfl)
 walk_at "me"
 refine aX ?_
 walk_at "me"
 refine bE hne KT (bP _) (cB _) (Nat.le_trans (aV (Nat.le_refl 0)) (by decide)) ?_
 dsimp only
 exact dm ⟨rfl,h x dx hx hd hne⟩
theorem iO(KT:HK c){v0 v1:Value}(h:∀v V',Le [] V V'->IA V' v 183 [("params",v0),("body",v1)]->Q v V'):ab c (d+2) (.ref 183) [v0,v1] V Q:=
 ab.frz (zY KT fun x dx hx hd hne=>⟨[x,dx],h _ _ (dK hx hd hne) (eZ hne)⟩)
theorem zZ(KT:HK c){v0 v1 v2:Value}(h:∀x dx,V x=none->V dx=none->x≠dx->Q (.ref x) (eV V x dx 221 [("binds",v0),("body",v1),("is_rec",v2)])):ab c (d+2) (.ref 221) [v0,v1,v2] V Q:=by
 refine fR (d8 KT (aM _)) (by rw[KT];exact wz _) (by rw[KT];exact wA _) (fun x dx hx hd hne=>?_)
 refine lj (x0:="self") (x1:="binds") (x2:="body") (x3:="is_rec") (by rw[KT];rfl) rfl rfl (by rw[KT];kernel_rfl) (fun b0 b1 b2 b3=>by rfl) ?_
 intro env K
 try dsimp only at K
 show SS c d env _ _ (eV V x dx 221 []) _
 refine aG (br ?_ rfl rfl rfl)
 walk_at "me"
 refine aX ?_
 walk_at "me"
 refine bE hne KT (aM _) (bf _) (Nat.le_trans (Nat.le_refl 0) (by decide)) ?_
 dsimp only
 refine aG (br ?_ rfl rfl rfl)
 walk_at "me"
 refine aX ?_
 walk_at "me"
 refine bE hne KT (aM _) (bI _) (Nat.le_trans (aV (Nat.le_refl 0)) (by decide)) ?_
 dsimp only
 refine aG (br ?_ rfl rfl rfl)
 walk_at "me"
 refine aX ?_
 walk_at "me"
 refine bE hne KT (aM _) (bp _) (Nat.le_trans (aV (aV (Nat.le_refl 0))) (by decide)) ?_
 dsimp only
 exact dm ⟨rfl,h x dx hx hd hne⟩
theorem rc(KT:HK c){v0 v1 v2:Value}(h:∀v V',Le [] V V'->IA V' v 221 [("binds",v0),("body",v1),("is_rec",v2)]->Q v V'):ab c (d+2) (.ref 221) [v0,v1,v2] V Q:=
 ab.frz (zZ KT fun x dx hx hd hne=>⟨[x,dx],h _ _ (dK hx hd hne) (eZ hne)⟩)
theorem Aa(KT:HK c){v0 v1 v2:Value}(h:∀x dx,V x=none->V dx=none->x≠dx->Q (.ref x) (eV V x dx 242 [("key",v0),("names",v1),("body",v2)])):ab c (d+2) (.ref 242) [v0,v1,v2] V Q:=by
 refine fR (d8 KT (bV _)) (by rw[KT];exact wC _) (by rw[KT];exact wD _) (fun x dx hx hd hne=>?_)
 refine lj (x0:="self") (x1:="key") (x2:="names") (x3:="body") (by rw[KT];rfl) rfl rfl (by rw[KT];kernel_rfl) (fun b0 b1 b2 b3=>by rfl) ?_
 intro env K
 try dsimp only at K
 show SS c d env _ _ (eV V x dx 242 []) _
 refine aG (br ?_ rfl rfl rfl)
 walk_at "me"
 refine aX ?_
 walk_at "me"
 refine bE hne KT (bV _) (dq _) (Nat.le_trans (Nat.le_refl 0) (by decide)) ?_
 dsimp only
 refine aG (br ?_ rfl rfl rfl)
 walk_at "me"
 refine aX ?_
 walk_at "me"
 refine bE hne KT (bV _) (dY _) (Nat.le_trans (aV (Nat.le_refl 0)) (by decide)) ?_
 dsimp only
 refine aG (br ?_ rfl rfl rfl)
 walk_at "me"
 refine aX ?_
 walk_at "me"
 refine bE hne KT (bV _) (du _) (Nat.le_trans (aV (aV (Nat.le_refl 0))) (by decide)) ?_
 dsimp only
 exact dm ⟨rfl,h x dx hx hd hne⟩
theorem oV(KT:HK c){v0 v1 v2:Value}(h:∀v V',Le [] V V'->IA V' v 242 [("key",v0),("names",v1),("body",v2)]->Q v V'):ab c (d+2) (.ref 242) [v0,v1,v2] V Q:=
 ab.frz (Aa KT fun x dx hx hd hne=>⟨[x,dx],h _ _ (dK hx hd hne) (eZ hne)⟩)
theorem Ac(KT:HK c){v0 v1 v2 v3:Value}(h:∀x dx,V x=none->V dx=none->x≠dx->Q (.ref x) (eV V x dx 282 [("value",v0),("name",v1),("alts",v2),("other",v3)])):ab c (d+2) (.ref 282) [v0,v1,v2,v3] V Q:=by
 refine fR (d8 KT (aK _)) (by rw[KT];exact wE _) (by rw[KT];exact wF _) (fun x dx hx hd hne=>?_)
 refine y7 (x0:="self") (x1:="value") (x2:="name") (x3:="alts") (x4:="other") (by rw[KT];rfl) rfl rfl (by rw[KT];kernel_rfl) (fun b0 b1 b2 b3 b4=>by rfl) ?_
 intro env K
 try dsimp only at K
 show SS c d env _ _ (eV V x dx 282 []) _
 refine aG (br ?_ rfl rfl rfl)
 walk_at "me"
 refine aX ?_
 walk_at "me"
 refine bE hne KT (aK _) (cC _) (Nat.le_trans (Nat.le_refl 0) (by decide)) ?_
 dsimp only
 refine aG (br ?_ rfl rfl rfl)
 walk_at "me"
 refine aX ?_
 walk_at "me"
 refine bE hne KT (aK _) (dv _) (Nat.le_trans (aV (Nat.le_refl 0)) (by decide)) ?_
 dsimp only
 refine aG (br ?_ rfl rfl rfl)
 walk_at "me"
 refine aX ?_
 walk_at "me"
 refine bE hne KT (aK _) (bZ _) (Nat.le_trans (aV (aV (Nat.le_refl 0))) (by decide)) ?_
 dsimp only
 refine aG (br ?_ rfl rfl rfl)
 walk_at "me"
 refine aX ?_
 walk_at "me"
 refine bE hne KT (aK _) (bg _) (Nat.le_trans (aV (aV (aV (Nat.le_refl 0)))) (by decide)) ?_
 dsimp only
 exact dm ⟨rfl,h x dx hx hd hne⟩
theorem hN(KT:HK c){v0 v1 v2 v3:Value}(h:∀v V',Le [] V V'->IA V' v 282 [("value",v0),("name",v1),("alts",v2),("other",v3)]->Q v V'):ab c (d+2) (.ref 282) [v0,v1,v2,v3] V Q:=
 ab.frz (Ac KT fun x dx hx hd hne=>⟨[x,dx],h _ _ (dK hx hd hne) (eZ hne)⟩)
theorem Ad(KT:HK c){v0 v1:Value}(h:∀x dx,V x=none->V dx=none->x≠dx->Q (.ref x) (eV V x dx 322 [("name",v0),("args",v1)])):ab c (d+2) (.ref 322) [v0,v1] V Q:=by
 refine fR (d8 KT (dk _)) (by rw[KT];exact wG _) (by rw[KT];exact wH _) (fun x dx hx hd hne=>?_)
 refine jD (x0:="self") (x1:="name") (x2:="args") (by rw[KT];rfl) rfl rfl (by rw[KT];kernel_rfl) (fun b0 b1 b2=>by rfl) ?_
 intro env K
 try dsimp only at K
 show SS c d env _ _ (eV V x dx 322 []) _
 refine aG (br ?_ rfl rfl rfl)
 walk_at "me"
 refine aX ?_
 walk_at "me"
 refine bE hne KT (dk _) (dN _) (Nat.le_trans (Nat.le_refl 0) (by decide)) ?_
 dsimp only
 refine aG (br ?_ rfl rfl rfl)
 walk_at "me"
 refine aX ?_
 walk_at "me"
 refine bE hne KT (dk _) (eM _) (Nat.le_trans (aV (Nat.le_refl 0)) (by decide)) ?_
 dsimp only
 exact dm ⟨rfl,h x dx hx hd hne⟩
theorem oW(KT:HK c){v0 v1:Value}(h:∀v V',Le [] V V'->IA V' v 322 [("name",v0),("args",v1)]->Q v V'):ab c (d+2) (.ref 322) [v0,v1] V Q:=
 ab.frz (Ad KT fun x dx hx hd hne=>⟨[x,dx],h _ _ (dK hx hd hne) (eZ hne)⟩)
theorem Ae(KT:HK c){v0 v1:Value}(h:∀x dx,V x=none->V dx=none->x≠dx->Q (.ref x) (eV V x dx 362 [("op",v0),("args",v1)])):ab c (d+2) (.ref 362) [v0,v1] V Q:=by
 refine fR (d8 KT (cn _)) (by rw[KT];exact wI _) (by rw[KT];exact wJ _) (fun x dx hx hd hne=>?_)
 refine jD (x0:="self") (x1:="op") (x2:="args") (by rw[KT];rfl) rfl rfl (by rw[KT];kernel_rfl) (fun b0 b1 b2=>by rfl) ?_
 intro env K
 try dsimp only at K
 show SS c d env _ _ (eV V x dx 362 []) _
 refine aG (br ?_ rfl rfl rfl)
 walk_at "me"
 refine aX ?_
 walk_at "me"
 refine bE hne KT (cn _) (dO _) (Nat.le_trans (Nat.le_refl 0) (by decide)) ?_
 dsimp only
 refine aG (br ?_ rfl rfl rfl)
 walk_at "me"
 refine aX ?_
 walk_at "me"
 refine bE hne KT (cn _) (cT _) (Nat.le_trans (aV (Nat.le_refl 0)) (by decide)) ?_
 dsimp only
 exact dm ⟨rfl,h x dx hx hd hne⟩
theorem jH(KT:HK c){v0 v1:Value}(h:∀v V',Le [] V V'->IA V' v 362 [("op",v0),("args",v1)]->Q v V'):ab c (d+2) (.ref 362) [v0,v1] V Q:=
 ab.frz (Ae KT fun x dx hx hd hne=>⟨[x,dx],h _ _ (dK hx hd hne) (eZ hne)⟩)
theorem Af(KT:HK c){v0 v1 v2:Value}(h:∀x dx,V x=none->V dx=none->x≠dx->Q (.ref x) (eV V x dx 383 [("binds",v0),("cons",v1),("main",v2)])):ab c (d+2) (.ref 383) [v0,v1,v2] V Q:=by
 refine fR (d8 KT (dZ _)) (by rw[KT];exact wK _) (by rw[KT];exact wL _) (fun x dx hx hd hne=>?_)
 refine lj (x0:="self") (x1:="binds") (x2:="cons") (x3:="main") (by rw[KT];rfl) rfl rfl (by rw[KT];kernel_rfl) (fun b0 b1 b2 b3=>by rfl) ?_
 intro env K
 try dsimp only at K
 show SS c d env _ _ (eV V x dx 383 []) _
 refine aG (br ?_ rfl rfl rfl)
 walk_at "me"
 refine aX ?_
 walk_at "me"
 refine bE hne KT (dZ _) (d0 _) (Nat.le_trans (Nat.le_refl 0) (by decide)) ?_
 dsimp only
 refine aG (br ?_ rfl rfl rfl)
 walk_at "me"
 refine aX ?_
 walk_at "me"
 refine bE hne KT (dZ _) (j0 _) (Nat.le_trans (aV (Nat.le_refl 0)) (by decide)) ?_
 dsimp only
 refine aG (br ?_ rfl rfl rfl)
 walk_at "me"
 refine aX ?_
 walk_at "me"
 refine bE hne KT (dZ _) (hH _) (Nat.le_trans (aV (aV (Nat.le_refl 0))) (by decide)) ?_
 dsimp only
 exact dm ⟨rfl,h x dx hx hd hne⟩
theorem uK(KT:HK c){v0 v1 v2:Value}(h:∀v V',Le [] V V'->IA V' v 383 [("binds",v0),("cons",v1),("main",v2)]->Q v V'):ab c (d+2) (.ref 383) [v0,v1,v2] V Q:=
 ab.frz (Af KT fun x dx hx hd hne=>⟨[x,dx],h _ _ (dK hx hd hne) (eZ hne)⟩)
theorem Ag(KT:HK c){v0 v1 v2:Value}(h:∀x dx,V x=none->V dx=none->x≠dx->Q (.ref x) (eV V x dx 411 [("flags",v0),("free",v1),("diverges",v2)])):ab c (d+2) (.ref 411) [v0,v1,v2] V Q:=by
 refine fR (d8 KT (cD _)) (by rw[KT];exact wM _) (by rw[KT];exact wN _) (fun x dx hx hd hne=>?_)
 refine lj (x0:="self") (x1:="flags") (x2:="free") (x3:="diverges") (by rw[KT];rfl) rfl rfl (by rw[KT];kernel_rfl) (fun b0 b1 b2 b3=>by rfl) ?_
 intro env K
 try dsimp only at K
 show SS c d env _ _ (eV V x dx 411 []) _
 refine aG (br ?_ rfl rfl rfl)
 walk_at "me"
 refine aX ?_
 walk_at "me"
 refine bE hne KT (cD _) (cV _) (Nat.le_trans (Nat.le_refl 0) (by decide)) ?_
 dsimp only
 refine aG (br ?_ rfl rfl rfl)
 walk_at "me"
 refine aX ?_
 walk_at "me"
 refine bE hne KT (cD _) (hJ _) (Nat.le_trans (aV (Nat.le_refl 0)) (by decide)) ?_
 dsimp only
 refine aG (br ?_ rfl rfl rfl)
 walk_at "me"
 refine aX ?_
 walk_at "me"
 refine bE hne KT (cD _) (dJ _) (Nat.le_trans (aV (aV (Nat.le_refl 0))) (by decide)) ?_
 dsimp only
 exact dm ⟨rfl,h x dx hx hd hne⟩
theorem uL(KT:HK c){v0 v1 v2:Value}(h:∀v V',Le [] V V'->IA V' v 411 [("flags",v0),("free",v1),("diverges",v2)]->Q v V'):ab c (d+2) (.ref 411) [v0,v1,v2] V Q:=
 ab.frz (Ag KT fun x dx hx hd hne=>⟨[x,dx],h _ _ (dK hx hd hne) (eZ hne)⟩)
theorem Ai(KT:HK c){v0:Value}(h:∀x dx,V x=none->V dx=none->x≠dx->Q (.ref x) (eV V x dx 557 [("fresh",v0)])):ab c (d+2) (.ref 557) [v0] V Q:=by
 refine fR (d8 KT (cF _)) (by rw[KT];exact wO _) (by rw[KT];exact wP _) (fun x dx hx hd hne=>?_)
 refine qS (x0:="self") (x1:="fresh") (by rw[KT];rfl) rfl rfl (by rw[KT];kernel_rfl) (fun b0 b1=>by rfl) ?_
 intro env K
 try dsimp only at K
 show SS c d env _ _ (eV V x dx 557 []) _
 refine aG (br ?_ rfl rfl rfl)
 walk_at "me"
 refine aX ?_
 walk_at "me"
 refine bE hne KT (cF _) (jf _) (Nat.le_trans (Nat.le_refl 0) (by decide)) ?_
 dsimp only
 exact dm ⟨rfl,h x dx hx hd hne⟩
theorem Aj(KT:HK c)(h:∀x dx,V x=none->V dx=none->x≠dx->Q (.ref x) (eV V x dx 614 [("many",.int 0 0)])):ab c (d+2) (.ref 614) [] V Q:=by
 refine fR (d8 KT (fT _)) (by rw[KT];exact wQ _) (by rw[KT];exact wR _) (fun x dx hx hd hne=>?_)
 refine uq (x0:="self") (by rw[KT];rfl) rfl rfl (by rw[KT];kernel_rfl) (fun b0=>by rfl) ?_
 intro env K
 try dsimp only at K
 show SS c d env _ _ (eV V x dx 614 []) _
 refine aG (br ?_ rfl rfl rfl)
 walk_at "me"
 refine aX ?_
 walk_at "me"
 refine bE hne KT (fT _) (fU _) (Nat.le_trans (Nat.le_refl 0) (by decide)) ?_
 dsimp only
 exact dm ⟨rfl,h x dx hx hd hne⟩
end
theorem lA(V:St)(a b:Addr):fz V a b=V b∨(b=a/\∃o,V a=some o/\o.isRo=false/\fz V a b=some (.ro o)):=by
 induction e:V a with
 |none=>left;unfold fz;rw[e]
 |some o=>
  induction hr:o.isRo with
  |true=>left;unfold fz;rw[e];induction o<;>first|rfl|cases hr
  |false=>
   rw[ng e hr]
   by_cases hb:b=a
   ·subst hb;exact .inr ⟨rfl,o,rfl,hr,aj ..⟩
   ·exact .inl (aA _ _ hb)
theorem B5(V:St)(a:Addr):Ro V (fz V a):=fun b r q=>by
 rcases lA V a b with h| ⟨rfl,o,h1,h2,h3⟩
 ·rw[h];exact q
 ·rw[h1]at q;cases q;cases h2
theorem aD:∀(as:List Addr) (V:St),Ro V (fzs V as)
 | [],V=>fun _ _ h=>h
 |a::r,V=>fun b q h=>aD r (fz V a) b q (B5 V a b q h)
theorem gd:∀(as:List Addr) {V:St} {b:Addr},b∉as->fzs V as b=V b
 | [],V,b,h=>rfl
 |a::r,V,b,h=>by
  show fzs (fz V a) r b=_
  rw[gd r fun q=>h (List.mem_cons_of_mem _ q)]
  rcases lA V a b with q| ⟨q,_⟩
  ·exact q
  ·exact absurd (q▸List.mem_cons_self) h
theorem aN:∀{as:List Addr} {V:St} {a:Addr} {o:cq},a∈as->V a=some o->o.isRo=false->fzs V as a=some (.ro o)
 |b::r,V,a,o,hm,h,hn=>by
  show fzs (fz V b) r a=_
  by_cases hb:a=b
  ·subst hb;exact aD r _ _ _ (by rw[ng h hn,aj])
  ·have hm':a∈r:=by
    rcases List.mem_cons.mp hm with q|q
    ·exact absurd q hb
    ·exact q
   refine aN hm' ?_ hn
   rcases lA V b a with q| ⟨q,_⟩
   ·rw[q];exact h
   ·exact absurd q hb
theorem aR{M:List Addr}{V V':St}:∀{as:List Addr},Le M V V'->(∀a∈as,V a=none∨a∈M)->Le M V (fzs V' as):=by
 intro as
 induction as generalizing V' with
 |nil=>exact fun L _=>L
 |cons a r ih=>exact fun L h=>ih (L.fz (h a List.mem_cons_self)) fun b hb=>h b (List.mem_cons_of_mem _ hb)
theorem Le.at{M:List Addr}{V V':St}{a:Addr}{o:cq}(L:Le M V V')(h:V a=some o)(hm:a∉M):V' a=some o:=L.ext a o hm h
theorem Le.at0{V V':St}{a:Addr}{o:cq}(L:Le [] V V')(h:V a=some o):V' a=some o:=L.ext a o nn h
theorem Le.none0{M:List Addr}{V V':St}{a:Addr}(L:Le M V V')(h:V' a=none)(hm:a∉M):V a=none:=by
 induction e:V a with
 |none=>rfl
 |some o=>rw[L.ext a o hm e]at h;cases h
theorem Le.new1{M:List Addr}{V V':St}{a:Addr}{o:cq}(L:Le M V V')(h:V' a=none):Le M V (V'.set a o):=L.trans (.new h)
theorem aO{V:St}{a b:Addr}{o:cq}(h:V a=none)(h2:V b=some o):a≠b:=by rintro rfl;rw[h]at h2;cases h2
section
variable{c:Cx}{d:Nat}{V:St}{Q:Value->St->Prop}
theorem ab.at{f:Value}{vs:List Value}{k:Nat}(h:ab c k f vs V Q)(hk:k<=d):Calls c d f vs V Q:=(h.deeper hk).calls
theorem uM{env:Env}{l:au}{p:Pos}(h:∀a ep V',Le [] V V'->V a=none->V' a=some (.ro (.dict [] ep))->Q (.ref a) V'):E c d env l (.Dict [] [] p) V Q:=
 E.frz (ky fun a ep ha=>⟨[a],h a ep _ (aR (.new ha) (by simpa using ha)) ha (aN List.mem_cons_self (aj ..) rfl)⟩)
theorem uN{env:Env}{l:au}{p:Pos}{ke ve:Expr}(h:E c d env l ke V fun kx V1=>E c d env l ve V1 fun vx V2=>∃x,kx= .str x 0/\∀a ep V',Le [] V2 V'->V2 a=none->V' a=some (.ro (.dict [(x,vx)] ep))->Q (.ref a) V'):E c d env l (.Dict [some ke] [ve] p) V Q:=
 E.frz (rX (h.mono fun kx V1 q=>q.mono fun vx V2 ⟨x,e,q⟩=>⟨x,e,fun a ep ha=>⟨[a],q a ep _ (aR (.new ha) (by simpa using ha)) ha (aN List.mem_cons_self (aj ..) rfl)⟩⟩))
end
def sX(J R:au->St->Prop):Prop:=∀l V,J l V->R l V
def Ak(J R:Nat->au->St->Prop):Prop:=∀i l V,J i l V->R i l V
def xk(J R:Nat->fN->au->St->Prop):Prop:=∀i a l V,J i a l V->R i a l V
theorem xk.use{J R:Nat->fN->au->St->Prop}{i:Nat}{a:fN}{l:au}{V:St}(k:xk J R)(h:J i a l V):R i a l V:=k i a l V h
abbrev I2:=au->St->Prop->Prop
abbrev I3:=Nat->au->St->Prop->Prop
abbrev I4:=Nat->fN->au->St->Prop->Prop
abbrev re(F:I2):au->St->Prop:=fun l V=>∀G,F l V G->G
abbrev rf(F:I3):Nat->au->St->Prop:=fun i l V=>∀G,F i l V G->G
abbrev xl(F:I4):Nat->fN->au->St->Prop:=fun i a l V=>∀G,F i a l V G->G
def Al(R:au->St->Prop)(QF:Fl->au->St->Prop):Fl->au->St->Prop:=fun f l V=>match f with| .next=>R l V|f=>QF f l V
def ni(R:au->St->Prop)(QF:Fl->au->St->Prop):Fl->au->St->Prop:=fun f l V=>match f with| .next=>R l V| .ret w=>QF (.ret w) l V| .other=>False
def Dc(R:fN->au->St->Prop)(l:au):fN->St->Prop:=fun acc V=>R acc l V
def Dd(c:Cx)(d:Nat)(env:Env)(ck:CK)(acc:fN)(R:fN->au->St->Prop)(l:au):Bool->St->Prop:=fun b V=>if b=true then my c d env l ck acc V (Dc R l)else R acc l V
abbrev DH(c:Cx)(d:Nat)(env:Env)(ifs:List Expr)(ck:CK)(acc:fN)(R:fN->au->St->Prop):au->St->Prop:=fun l V=>i8 c d env l ifs V (Dd c d env ck acc R l)
abbrev DI(c:Cx)(d:Nat)(env:Env)(body:List Stmt)(QF:Fl->au->St->Prop):au->St->Prop:=fun l V=>SS c d env l body V QF
abbrev DJ(vs:List Value)(QA:fN->St->Prop):Value->St->Prop:=fun y V=>vs.length<=sizeLine/\QA (.l (vs++ [y])) V
abbrev CR(kvs:List (Str×Value))(QA:fN->St->Prop)(kx:Value):Value->St->Prop:=fun vx V=>∃x,kx= .str x 0/\kvs.length<=sizeLine/\QA (.d (stored kvs x vx)) V
abbrev DK(c:Cx)(d:Nat)(env:Env)(l:au)(ve:Expr)(kvs:List (Str×Value))(QA:fN->St->Prop):Value->St->Prop:=fun kx V=>E c d env l ve V (CR kvs QA kx)
abbrev DL(c:Cx)(d:Nat)(env:Env)(ts:List Expr)(vs:List Value)(QL:au->St->Prop):au->St->Prop:=fun l V=>kc c d env l ts vs V QL
abbrev CS(c:Cx)(d:Nat)(env:Env)(ts:List Expr)(vs:List Value)(QL:au->St->Prop):au->St->Prop:=fun l V=>mW c d env l ts vs V QL
abbrev Lk(l:au)(x:Str)(v:Value):Prop:=l.lookup x=some v
theorem uO(l:au)(x:Str)(v:Value):(eW l x v).lookup x=some v:=by rw[cM];simp
theorem dD{l:au}{x y:Str}{v w:Value}(h:(y==x)=false)(hv:l.lookup y=some v):(eW l x w).lookup y=some v:=by
 rw[cM,if_neg (by simpa using h)];exact hv
theorem Am{ns:List (Str×NameKind)}{l:au}{y:Str}{v:Value}(h:(ns.lookup y==some .free)=true)(hv:l.lookup y=some v):(sN ns l).lookup y=some v:=by
 rw[iM,if_pos (by simpa using h)];exact hv
section
variable{c:Cx}{d:Nat}{env:Env}{l:au}{V:St}{p pos:Pos}{Q:Value->St->Prop}{QB:Bool->St->Prop}{QF:Fl->au->St->Prop}{QL:au->St->Prop}{ns:List (Str×NameKind)}
theorem uP{J R:au->St->Prop}(k:sX J R)(h:J l V):Al R QF .next l V:=k l V h
theorem uQ{R:au->St->Prop}{v:Value}(h:QF (.ret v) l V):Al R QF (.ret v) l V:=h
theorem sY{J R:Nat->au->St->Prop}{i:Nat}(k:Ak J R)(h:J i l V):ni (R i) QF .next l V:=k i l V h
theorem rg{J R:au->St->Prop}(k:sX J R)(h:J l V):ni R QF .next l V:=k l V h
theorem B6{ck:CK}{acc:fN}{R:fN->au->St->Prop}{b:Bool}(h:if b=true then my c d env l ck acc V (Dc R l)else R acc l V):Dd c d env ck acc R l b V:=h
def kW(c:Cx)(d:Nat)(env:Env)(l:au)(body:List Stmt)(QW QF:Fl->au->St->Prop):Bool->St->Prop:=fun b V=>if b=true then SS c d env l body V QW else QF .next l V
theorem CT{body:List Stmt}{QW:Fl->au->St->Prop}{b:Bool}(h:if b=true then SS c d env l body V QW else QF .next l V):kW c d env l body QW QF b V:=h
abbrev DM(c:Cx)(d:Nat)(env:Env)(t:Expr)(body:List Stmt)(QF:Fl->au->St->Prop):au->St->Prop:=fun l V=>gc c d env t body l V QF
theorem j6{t:Expr}{body:List Stmt}(h:T c d env l t V (kW c d env l body (ni (DM c d env t body QF) QF) QF)):gc c d env t body l V QF:=gF h
theorem nY.mono{t:Expr}{v:Value}{Q1:au->St->Prop}(h:nY c d env l t v V QL)(hq:∀l' V',QL l' V'->Q1 l' V'):nY c d env l t v V Q1:=fun rv e=>(h rv e).mono fun _ l' V'=>hq l' V'
theorem kL.mono{t:Expr}{v:Value}{Q1:au->St->Prop}(h:kL c d env l t v V QL)(hq:∀l' V',QL l' V'->Q1 l' V'):kL c d env l t v V Q1:=fun rv e=>(h rv e).mono fun _ l' V'=>hq l' V'
theorem i8.mono{ifs:List Expr}{Q1:Bool->St->Prop}(h:i8 c d env l ifs V QB)(hq:∀b V',QB b V'->Q1 b V'):i8 c d env l ifs V Q1:=by
 match ifs,h with
 | [],h=>exact hq _ _ h
 | [t],h=>exact T.mono h hq
 |_::_::_,h=>exact h.elim
theorem my.mono{ck:CK}{acc:fN}{QA Q1:fN->St->Prop}(h:my c d env l ck acc V QA)(hq:∀b V',QA b V'->Q1 b V'):my c d env l ck acc V Q1:=by
 induction ck with
 |lst e=>induction acc with
  |l vs=>
   show E c d env l e V fun y V1=>vs.length<=sizeLine/\Q1 (.l (vs++ [y])) V1
   exact E.mono (Q:=fun y V1=>vs.length<=sizeLine/\QA (.l (vs++ [y])) V1) h fun v V' q=>⟨q.1,hq _ _ q.2⟩
  |d kvs=>exact h.elim
 |dct ke ve=>induction acc with
  |l vs=>exact h.elim
  |d kvs=>
   show E c d env l ke V fun kx V1=>E c d env l ve V1 fun vx V2=>∃x,kx= .str x 0/\kvs.length<=sizeLine/\Q1 (.d (stored kvs x vx)) V2
   exact E.mono (Q:=fun kx V1=>E c d env l ve V1 fun vx V2=>∃x,kx= .str x 0/\kvs.length<=sizeLine/\QA (.d (stored kvs x vx)) V2) h fun kx V1 q=>E.mono q fun vx V2 q=>let ⟨x,e,hz,q⟩:=q;⟨x,e,hz,hq _ _ q⟩
theorem sZ{ck:CK}{t iter:Expr}{ifs:List Expr}{scope:Scope}{src:pu}{QA:fN->St->Prop}(xs:List Value)(I:Nat->fN->au->St->Prop)
  (nxt:∀i acc l V,I i acc l V->nx V src i=some xs[i]?)
  (step:∀i x acc l V,xs[i]? =some x->I i acc l V->kL c d env l t x V fun l1 V1=>i8 c d env l1 ifs V1 fun b V2=>if b=true then my c d env l1 ck acc V2 fun acc' V3=>I (i+1) acc' l1 V3 else I (i+1) acc l1 V2)
  (gV:∀acc l V,I xs.length acc l V->QA acc V):∀(k i:Nat) {acc:fN} {l:au} {V:St},i+k=xs.length->I i acc l V->eL c d env ck t iter ifs scope pos src i acc l V QA:=by
 intro zz
 induction zz with
 |zero=>
  intro i acc l V hk h
  exact mY (r:=none) ((nxt i acc l V h).trans (by rw[List.getElem?_eq_none (by exact bK (Nat.le_of_eq hk.symm))])) (gV acc l V (by
   have:i=xs.length:=by exact Nat.le_antisymm (bK (Nat.le_of_eq hk)) (bK (Nat.le_of_eq hk.symm))
   exact this▸h))
 |succ k ih=>
  intro i acc l V hk h
  have hlt:i<xs.length:=by exact bK (Nat.le_of_eq hk)
  have hx:xs[i]? =some xs[i]:=List.getElem?_eq_getElem hlt
  refine mY (r:=some xs[i]) ((nxt i acc l V h).trans (by rw[hx])) ?_
  refine(step i _ acc l V hx h).mono fun l1 V1 q=>q.mono fun b V2 q=>?_
  induction b with
  |false=>exact ih (i+1) (by exact Nat.le_antisymm (bK (Nat.le_of_eq hk)) (bK (Nat.le_of_eq hk.symm))) (by simpa using q)
  |true=>
   rw[if_pos rfl]at q ⊢
   exact q.mono fun acc' V3 q=>ih (i+1) (by exact Nat.le_antisymm (bK (Nat.le_of_eq hk)) (bK (Nat.le_of_eq hk.symm))) q
theorem aq{ck:CK}{t iter:Expr}{ifs:List Expr}{scope:Scope}{src:pu}{QA:fN->St->Prop}(xs:List Value)(F:I4)
  (nxt:∀i acc l V,F i acc l V (nx V src i=some xs[i]?))
  (step:∀i x acc l V,xs[i]? =some x->∀R,xk (xl F) R->F i acc l V (kL c d env l t x V (DH c d env ifs ck acc (R (i+1)))))
  (gV:∀acc l V,F xs.length acc l V (QA acc V)) (k i:Nat) {acc:fN} {l:au} {V:St} (hk:i+k=xs.length) (h:xl F i acc l V):eL c d env ck t iter ifs scope pos src i acc l V QA:=
 sZ xs (xl F) (fun i acc l V h=>h _ (nxt i acc l V)) (fun i x acc l V hx h=>h _ (step i x acc l V hx (xl F) fun _ _ _ _ q=>q)) (fun acc l V h=>h _ (gV acc l V)) k i hk h
theorem uR{t:Expr}{body:List Stmt}{src:pu}(xs:List Value)(I:Nat->au->St->Prop)
  (nxt:∀i l V,I i l V->nx V src i=some xs[i]?)
  (step:∀i x l V,xs[i]? =some x->I i l V->nY c d env l t x V fun l1 V1=>SS c d env l1 body V1 fun f l2 V2=>match f with| .next=>I (i+1) l2 V2| .ret w=>QF (.ret w) l2 V2| .other=>False)
  (gV:∀l V,I xs.length l V->QF .next l V):∀(k i:Nat) {l:au} {V:St},i+k=xs.length->I i l V->mx c d env t body src i l V QF:=by
 intro zz
 induction zz with
 |zero=>
  intro i l V hk h
  exact dn (r:=none) ((nxt i l V h).trans (by rw[List.getElem?_eq_none (by exact bK (Nat.le_of_eq hk.symm))])) (gV l V (by
   have:i=xs.length:=by exact Nat.le_antisymm (bK (Nat.le_of_eq hk)) (bK (Nat.le_of_eq hk.symm))
   exact this▸h))
 |succ k ih=>
  intro i l V hk h
  have hlt:i<xs.length:=by exact bK (Nat.le_of_eq hk)
  have hx:xs[i]? =some xs[i]:=List.getElem?_eq_getElem hlt
  refine dn (r:=some xs[i]) ((nxt i l V h).trans (by rw[hx])) ?_
  refine(step i _ l V hx h).mono fun l1 V1 q=>q.mono fun f l2 V2 q=>?_
  induction f with
  |next=>exact ih (i+1) (by exact Nat.le_antisymm (bK (Nat.le_of_eq hk)) (bK (Nat.le_of_eq hk.symm))) q
  |ret w=>exact q
  |other=>exact q
theorem cW{t:Expr}{body:List Stmt}{src:pu}(xs:List Value)(F:I3)
  (nxt:∀i l V,F i l V (nx V src i=some xs[i]?))
  (step:∀i x l V,xs[i]? =some x->∀R,Ak (rf F) R->F i l V (nY c d env l t x V (DI c d env body (ni (R (i+1)) QF))))
  (gV:∀l V,F xs.length l V (QF .next l V)) (k i:Nat) {l:au} {V:St} (hk:i+k=xs.length) (h:rf F i l V):mx c d env t body src i l V QF:=
 uR xs (rf F) (fun i l V h=>h _ (nxt i l V)) (fun i x l V hx h=>h _ (step i x l V hx (rf F) fun _ _ _ q=>q)) (fun l V h=>h _ (gV l V)) k i hk h
theorem kc.mono{ts:List Expr}{vs:List Value}{Q1:au->St->Prop}(h:kc c d env l ts vs V QL)(hq:∀l' V',QL l' V'->Q1 l' V'):kc c d env l ts vs V Q1:=by
 induction ts generalizing l V vs with
 |nil=>induction vs<;>exact hq _ _ h
 |cons t r ih=>induction vs using bD with
  |nil=>exact hq _ _ h
  |cons v vs=>exact nY.mono h fun l1 V1 q=>ih q
theorem xm{ts:List Expr}{kt:Nat}{pt:Pos}{body:List Stmt}{a1 a2:Addr}(xs ys:List Value)(I:Nat->au->St->Prop)(hst:ts.all aY=true)(hlen:ts.length=2)
  (nxt:∀i l V,I i l V->rd V a1=some (.list xs)/\rd V a2=some (.list ys))
  (step:∀i x y l V,xs[i]? =some x->ys[i]? =some y->I i l V->kc c d env l ts [x,y] V fun l1 V1=>SS c d env l1 body V1 fun f l2 V2=>match f with| .next=>I (i+1) l2 V2| .ret w=>QF (.ret w) l2 V2| .other=>False)
  (gV:∀i l V,i=min xs.length ys.length->I i l V->QF .next l V):∀(k i:Nat) {l:au} {V:St},i+k=min xs.length ys.length->I i l V->sU c d env (.Tuple ts kt pt) body a1 a2 i l V QF:=by
 intro zz
 induction zz with
 |zero=>
  intro i l V hk h
  exact pT (nxt i l V h).1 (nxt i l V h).2 hst hlen (by
   have hq:=gV i l V (by exact Nat.le_antisymm (bK (Nat.le_of_eq hk)) (bK (Nat.le_of_eq hk.symm))) h
   by_cases hx:i<xs.length
   ·have hy:ys[i]? =none:=List.getElem?_eq_none (Nat.le_of_not_lt fun q=>Nat.lt_irrefl i (by have:=Nat.lt_min.mpr ⟨hx,q⟩;rwa [←hk]at this))
    rw[hy]
    cases xs[i]? <;>exact hq
   ·have hx:xs[i]? =none:=List.getElem?_eq_none (by exact bK (Nat.le_of_not_lt hx))
    rw[hx];exact hq)
 |succ k ih=>
  intro i l V hk h
  exact pT (nxt i l V h).1 (nxt i l V h).2 hst hlen (by
   have hi:i<min xs.length ys.length:=hk▸Nat.lt_add_of_pos_right (Nat.succ_pos k)
   have hx1:=Nat.lt_of_lt_of_le hi (Nat.min_le_left _ _)
   have hy1:=Nat.lt_of_lt_of_le hi (Nat.min_le_right _ _)
   have hx:xs[i]? =some xs[i]:=List.getElem?_eq_getElem hx1
   have hy:ys[i]? =some ys[i]:=List.getElem?_eq_getElem hy1
   rw[hx,hy]
   refine(step i _ _ l V hx hy h).mono fun l1 V1 q=>q.mono fun f l2 V2 q=>?_
   induction f with
   |next=>exact ih (i+1) (by exact Nat.le_antisymm (bK (Nat.le_of_eq hk)) (bK (Nat.le_of_eq hk.symm))) q
   |ret w=>exact q
   |other=>exact q)
theorem iP{x:Value}{b:Bool}(hx:∀id,x≠ .builtin id)(e:(x== .none)=b)(h:Q (.bool b) V):J2 c d (compareOp .Is) x .none V Q:=gZ hx (e▸h)
theorem ip{x:Value}{b:Bool}(hx:∀id,x≠ .builtin id)(e:(x== .none)=b)(h:Q (.bool (!b)) V):J2 c d (compareOp .IsNot) x .none V Q:=n9 hx (e▸h)
theorem uS{i:Int}(h:Q (.int (-i) 0) V):J1 c d (unaryOp .USub) (.int i 0) V Q:=fun v e=>jt.same fun A s Q' E' R H k=>by
 refine dP (cU e) fun t z1=>?_;subst z1
 exact P.neg_int (k (.int (-i) s.toks) _ h)
theorem uT{e:Expr}{vs:List Value}{QA:fN->St->Prop}(h:E c d env l e V (DJ vs QA)):my c d env l (.lst e) (.l vs) V QA:=h
theorem uU{ke ve:Expr}{kvs:List (Str×Value)}{QA:fN->St->Prop}(h:E c d env l ke V (DK c d env l ve kvs QA)):my c d env l (.dct ke ve) (.d kvs) V QA:=h
theorem An(h:QB true V):i8 c d env l [] V QB:=h
theorem Ao{t:Expr}(h:T c d env l t V QB):i8 c d env l [t] V QB:=h
theorem B7{vs:List Value}(h:QL l V):kc c d env l [] vs V QL:=by induction vs<;>exact h
theorem B8{t:Expr}{ts:List Expr}{v:Value}{vs:List Value}(h:nY c d env l t v V (DL c d env ts vs QL)):kc c d env l (t::ts) (v::vs) V QL:=h
theorem Ap{vs:List Value}(h:QL l V):mW c d env l [] vs V QL:=by induction vs<;>exact h
theorem Ar{t:Expr}{ts:List Expr}{v:Value}{vs:List Value}(h:kL c d env l t v V (CS c d env ts vs QL)):mW c d env l (t::ts) (v::vs) V QL:=h
theorem aE{a:Addr}{vs:List Value}(h:rd V a=some (.list vs))(i:Nat):nx V (.list a) i=some vs[i]? :=by show(match rd V a with|some (.list vs)=>some vs[i]? |_=>none)=_;rw[h]
theorem iQ{a:Addr}{vs:List Value}(h:rd V a=some (.tup vs))(i:Nat):nx V (.tup a) i=some vs[i]? :=by show(match rd V a with|some (.tup vs)=>some vs[i]? |_=>none)=_;rw[h]
theorem gI{a:Addr}{kvs:List (Str×Value)}{ep:Nat}(h:rd V a=some (.dict kvs ep))(i:Nat):nx V (.keys a kvs.length ep) i=some (kvs.map fun p=>aJ p.1)[i]? :=by
 show(match rd V a with|some (.dict kvs' ep')=>if ep'=ep/\kvs'.length=kvs.length then some (kvs'[i]?.map fun(p:Str×Value)=>Value.str p.1 0)else none|_=>none)=_
 rw[h]
 dsimp only
 rw[if_pos ⟨rfl,rfl⟩,List.getElem?_map];rfl
theorem dH(n i:Nat):nx V (.range n) i=some ((List.range n).map fun(j:Nat)=>Value.int (j:Int) 0)[i]? :=by
 show some (if i<n then some (Value.int i 0)else none)=_
 rw[List.getElem?_map]
 by_cases h:i<n
 ·rw[if_pos h,List.getElem?_range h];rfl
 ·rw[if_neg h,List.getElem?_eq_none (by simpa using h)];rfl
theorem As{a:Addr}{vs:List Value}(h:rd V a=some (.list vs))(i:Nat):nx V (.rev a vs.length) i=some vs.reverse[i]? :=by
 show(match rd V a with|some (.list ws)=>if vs.length=ws.length then some (if i<vs.length then ws[vs.length -1 -i]? else none)else none|_=>none)=_
 rw[h]
 simp only[if_true]
 by_cases hi:i<vs.length
 ·rw[if_pos hi,List.getElem?_reverse hi]
 ·rw[if_neg hi,List.getElem?_eq_none (by simpa using hi)]
theorem ax{a:Addr}{vs:List Value}(h:rd V a=some (.list vs)):dG V (.ref a)=some (.list a):=by unfold dG;dsimp only;rw[h]
theorem kD{a:Addr}{vs:List Value}(h:rd V a=some (.tup vs)):dG V (.ref a)=some (.tup a):=by unfold dG;dsimp only;rw[h]
theorem fJ{a:Addr}{kvs:List (Str×Value)}{ep:Nat}(h:rd V a=some (.dict kvs ep)):dG V (.ref a)=some (.keys a kvs.length ep):=by unfold dG;dsimp only;rw[h]
theorem dh{a:Addr}{n:Nat}(h:rd V a=some (.range n))(hn:n<2^62):dG V (.ref a)=some (.range n):=by
 unfold dG;dsimp only;rw[h];dsimp only;rw[if_pos (by lia)];simp
end
abbrev B9(Q:Value->St->Prop):List Value->St->Prop:=fun vs V=>vs.length<=sizeLine/\∀a V',Le [] V V'->V a=none->V' a=some (.ro (.tup vs))->Q (.ref a) V'
abbrev Ca(Q:Value->St->Prop):List Value->St->Prop:=fun vs V=>vs.length<=sizeLine/\∀a V',Le [] V V'->V a=none->V' a=some (.ro (.list vs))->Q (.ref a) V'
abbrev yu(Q:Value->St->Prop):fN->St->Prop:=fun acc V=>∃vs,acc= .l vs/\∀a V',Le [] V V'->V a=none->V' a=some (.ro (.list vs))->Q (.ref a) V'
theorem S.frz{c:Cx}{d:Nat}{env:Env}{l:au}{V:St}{st:Stmt}{QF:Fl->au->St->Prop}(h:S c d env l st V fun f l' V'=>∃as,QF f l' (fzs V' as)):S c d env l st V QF:=fun A s Q' E' R H F k=>
 h A s Q' E' R H F fun v h' tk l' V' H' S F' q=>let ⟨as,q⟩:=q;let ⟨H2,S2⟩:=lu as H' S;let ⟨_,S3⟩:=lu (X:=fun _=>False) as H' (.refl ..);k v h' tk l' _ H2 S2 (F'.after S3) q
theorem eL.mono{c:Cx}{d:Nat}{env:Env}{ck:CK}{t iter:Expr}{ifs:List Expr}{scope:Scope}{pos:Pos}{src:pu}{i:Nat}{acc:fN}{l:au}{V:St}{Q Q1:fN->St->Prop}
  (h:eL c d env ck t iter ifs scope pos src i acc l V Q) (hq:∀a V',Q a V'->Q1 a V'):eL c d env ck t iter ifs scope pos src i acc l V Q1:=fun A s R' it D V₀ h₀ R H F I a o1 o2 ne S k=>
 h A s R' it D V₀ h₀ R H F I a o1 o2 ne S fun h' tk l' V' acc' x1 x2 x3 x4 x5 q=>k h' tk l' V' acc' x1 x2 x3 x4 x5 (hq _ _ q)
section
variable{c:Cx}{d:Nat}{env:Env}{l:au}{V:St}{p pos:Pos}{Q:Value->St->Prop}{QF:Fl->au->St->Prop}{ns:List (Str×NameKind)}
theorem oX{es:List Expr}{m:Nat}(h:Es c d env l p es V (B9 Q)):E c d env l (.Tuple es m p) V Q:=
 E.frz (yi (eX.mono h fun vs V1 q=>⟨q.1,fun a ha=>⟨[a],q.2 a _ (aR (.new ha) (by simpa using ha)) ha (aN List.mem_cons_self (aj ..) rfl)⟩⟩))
theorem xn{es:List Expr}(h:Es c d env l p es V (Ca Q)):E c d env l (.List es p) V Q:=
 E.frz (qJ (eX.mono h fun vs V1 q=>⟨q.1,fun a ha=>⟨[a],q.2 a _ (aR (.new ha) (by simpa using ha)) ha (aN List.mem_cons_self (aj ..) rfl)⟩⟩))
theorem qe{e t iter:Expr}{ifs:List Expr}{scope:Scope}(K:aQ env ns)(hc:di ns scope=true)(hs:∀x,foldedSetIterable iter env x=pure x)
  (h:E c d env l iter V (nc c d (.lst e) t iter ifs scope p (.l []) l (yu Q))):E c d env l (.ListComp e [⟨t,iter,ifs,0⟩] scope p) V Q:=
 E.frz (rZ K hc hs (h.mono fun v V1 ⟨src,e1,q⟩=>⟨src,e1,fun cenv hk=>(q cenv hk).mono fun acc V2 ⟨vs,ea,q⟩ a ha=>by
  subst ea
  exact⟨[a],q a _ (aR (.new ha) (by simpa using ha)) ha (aN List.mem_cons_self (aj ..) rfl)⟩⟩))
theorem uV{e t iter:Expr}{ifs:List Expr}{scope:Scope}{y:Str}{py sp:Pos}(K:aQ env ns)(hy:rY (ns.lookup y)=true)(hc:di ns scope=true)(hs:∀x,foldedSetIterable iter env x=pure x)
  (hy':ns.lookup y=some .local) (hsw:(py.line==p.line&& !(scope.names.any fun(n,k)=>n==y&&(k== .local||k== .cell)))=true)
  (h:E c d env l iter V (nc c d (.lst e) t iter ifs scope p (.l []) l (yu (wU QF l y)))):S c d env l (.Assign [.Name y py] (.ListComp e [⟨t,iter,ifs,0⟩] scope p) sp) V QF:=
 S.frz (r7 K hy hc hs hy' hsw (h.mono fun v V1 ⟨src,e1,q⟩=>⟨src,e1,fun cenv hk=>(q cenv hk).mono fun acc V2 ⟨vs,ea,q⟩ a ha=>by
  subst ea
  exact⟨[a],q a _ (aR (.new ha) (by simpa using ha)) ha (aN List.mem_cons_self (aj ..) rfl)⟩⟩))
end
theorem s8{prog:Program}{w:World}{A:Around}{E:Value->Shared->Prop}{s:Shared}{a:Addr}{xs:Array Value}{k:Nat}{Q:Option Value->Shared->Prop}
  (hx:s.heap.get? a=some {cls:= .type "list",data:= .seq xs k}) (hA:A.handled=none)
  (h:∀h' tk,(∀b o,s.heap.get? b=some o->h'.get? b=some o)->Q none {s with heap:=h',toks:=tk}):wpAny (model prog w) A (getAttr? (.ref a) "keys") Q E s:=by
 have hmiss:typeLookup (.type "list") "keys"=pure none:=by rw[typeLookup_type,builtinLookup_eq_fast];kernel_rfl
 have hname:(["__module__","__name__","__qualname__","__doc__","__annotations__"]:List Str).contains "keys"=false:=by decide+kernel
 obtain⟨hp,g,d,tk,os⟩:=s
 have hT:∀tk',(⟨hp,g,d,tk',os⟩:Shared).TypeIs (.ref a) "list":=fun _=>⟨_,hx,rfl⟩
 have f1:=sub_AttributeError
 have f3:=PySem.F.slot_list_getattribute.lookup
 have f4:=PySem.F.slot_list_getattribute.bind (.ref a)
 have f5:=am_list_getattr_none
 unfold getAttr? getAttrBy? getAttrBy
 repeat (any_goals (first|assumption|exact hT _| ((with_reducible show wpAny _ _ (call (Value.builtin "list.__getattribute__") _ _) _ _ _);refine call_meets PySem.F.slot_list_getattribute (hT _) am_entry_list_getattribute (PySem.F.args_list_getattribute_2 _ _) (meets_getattribute_miss_list a xs k #[] "keys" _ hmiss hname (by decide+kernel)) ⟨hx,hA,fun h' tk' e hx'=>?_⟩) |wp_step))
 refine CA hx'.there fun t' u' he=>?_
 show wpAny _ _ (getattributeRaised _ _ _ _ _ _ _) _ _ _
 unfold getattributeRaised
 repeat (any_goals (first|assumption|wp_step))
 exact h _ _ hx'.of.keeps
theorem oY{o:Obj}{T U:String}(h1:o.cls= .type T)(h2:o.cls= .type U)(h:(T==U)=false):False:=by
 rw[h1]at h2;injection h2 with q;subst q;simp at h
theorem xo{prog:Program}{w:World}(x:Str)(t:Tok):(PySem.strKind prog w).is x (.str x t)=true:=by show Value.isStrOf x (.str x t)=true;simp[Value.isStrOf]
theorem nj:entryFor table "dict.update.loop"=some Builtin.«dict.update.loop» :=entryFor_of_tree (by kernel_rfl)
theorem nk:plainId "dict.update.loop"=true:=by decide+kernel
def xp(h:Heap)(xs:Array Value)(kvs:List (Str×Value)):Prop:=xs.size=kvs.length/\∀(i:Nat) (v:Value),xs[i]? =some v->∃(q:Addr) (ys:Array Value) (x:Str) (t:Tok) (w:Value),v=Value.ref q/\IsTup h q ys/\ys.toList=[.str x t,w]/\kvs[i]? =some (x,w)
theorem xq{prog:Program}{w:World}{it l D:Addr}{xs:Array Value}{kvs:List (Str×Value)}{R:Result->Shared->Prop}(hz:kvs.length<=1000)(hlit:l≠it)(hlD:l≠D)(hDit:D≠it):
  ∀(k i:Nat) {A:Around} {s:Shared} {acc:List (Str×Value)},i+k=xs.size->acc.length<=i->A.handled=none->s.heap.IsListIter it l i->s.heap.IsList l xs->xp s.heap xs kvs->s.heap.DictOf (PySem.strKind prog w) D acc->
   (∀h' tk,(∀b o,b≠it->b≠D->s.heap.get? b=some o->h'.get? b=some o)->h'.DictOf (PySem.strKind prog w) D (merged acc (kvs.drop i))->R (.ok (.ret .none)) {s with heap:=h',toks:=tk})->
   codeAny (model prog w) A (.builtin "dict.update.loop" ⟨[.ref D,.ref it,rawInt i,.none],[]⟩) R s:=by
 intro k
 induction k with
 |zero=>
  intro i A s acc hi ha hA hit hl hp hD kk
  refine codeAny_builtin nj ?_
  rw[Around.under_plainId nk]
  unfold Builtin.«dict.update.loop»
  have hend:xs[i]? =none:=by rw[←Array.getElem?_toList];exact List.getElem?_eq_none (by simp;exact bK (Nat.le_of_eq hi.symm))
  refine wpAny_bind (wpAny_pyNext_list_end hA hit hl hend fun h' hk=>?_)
  refine wpAny_bind (wpAny_pure (wpAny_pure ?_))
  refine kk h' s.toks (fun b o hb _ e=>hk b o hb e) ?_
  have:kvs.drop i=[]:=List.drop_eq_nil_of_le (by have:=hp.1;exact bC (Nat.le_of_eq this.symm) (Nat.le_of_eq hi.symm))
  rw[this]
  refine v7 hD fun o es ep ho r=>?_
  exact⟨o,es,ep,hk D o hDit ho,r⟩
 |succ k ih=>
  intro i A s acc hi ha hA hit hl hp hD kk
  refine codeAny_builtin nj ?_
  rw[Around.under_plainId nk]
  unfold Builtin.«dict.update.loop»
  have hlt:i<xs.size:=by exact bK (Nat.le_of_eq hi)
  have hxi:xs[i]? =some xs[i]:=Array.getElem?_eq_getElem hlt
  obtain⟨q,ys,x,t,w',hv,htq,hys,hkv⟩:=hp.2 i _ hxi
  rw[hv]at hxi
  refine wpAny_bind (wpAny_pyNext_list_item hit hl hxi fun h1 hit1 hs1=>?_)
  have hk1:∀b o,b≠it->s.heap.get? b=some o->h1.get? b=some o:=fun b o hb e=>hs1.extBut b o hb e
  refine iz htq fun oq hoq hcq zr=>?_;refine dP zr fun nq hdq=>?_
  have hqit:q≠it:=by
   rintro rfl
   refine iz hit fun o ho hc _=>?_
   rw[hoq]at ho;cases ho
   exact oY hcq hc rfl
  have hqD:q≠D:=by
   rintro rfl
   refine nU hD fun o es ep ho hc _=>?_
   rw[hoq]at ho;cases ho
   exact oY hcq hc.1 rfl
  have hoq1:=hk1 q oq hqit hoq
  refine wpAny_bind (wpAny_holding ?_)
  refine wpAny_bind (wpAny_tryCatch ?_)
  unfold Builtin.Dict.pairItems
  refine wpAny_bind (wpAny_typeOf (T:="tuple") ⟨oq,hoq1,hcq⟩ ?_)
  dsimp only
  rw[if_pos (by decide)]
  refine wpAny_bind (wpAny_seqItems hoq1 hdq (wpAny_pure ?_))
  rw[Option.getD_some,hys]
  dsimp only
  have hD1:h1.DictOf (PySem.strKind prog w) D acc:=by
   refine v7 hD fun o es ep ho r=>?_
   exact⟨o,es,ep,hk1 D o hDit ho,r⟩
  refine wpAny_holding (wpAny_dictSet_pairs (knd:=PySem.strKind prog w) (kvs:=acc) (xo x t) hD1 (fun h2 hD2 hs2=>?_) (by rw[sizeLine_eq];have:=hp.1;exact kI ha (Nat.le_of_eq hi) (Nat.le_of_eq this) hz))
  have hk2:∀b o,b≠D->h1.get? b=some o->h2.get? b=some o:=fun b o hb e=>by rw[hs2.2 b hb];exact e
  have hk12:∀b o,b≠it->b≠D->s.heap.get? b=some o->h2.get? b=some o:=fun b o hb hb2 e=>hk2 b o hb2 (hk1 b o hb e)
  refine wpAny_pure ⟨Code.quiet_builtin _ (by decide+kernel),?_⟩
  refine ih (i+1) (acc:=stored acc x w') (by exact Nat.le_antisymm (bK (Nat.le_of_eq hi)) (bK (Nat.le_of_eq hi.symm))) ?_ hA ?_ ?_ ?_ hD2 fun h' tk hk hD'=>?_
  ·unfold stored;split
   ·rw[List.length_map];exact bK ha
   ·simp;lia
  ·refine be hit1 fun o ho r=>?_;exact⟨o,hk2 _ _ (Ne.symm hDit) ho,r⟩
  ·refine be hl fun o ho r=>?_;exact⟨o,hk12 _ _ hlit hlD ho,r⟩
  ·refine⟨hp.1,fun j v hj=>?_⟩
   obtain⟨q,ys,x,t,w,hv,htq,r⟩:=hp.2 j v hj
   refine iz htq fun oq hoq hcq zr=>?_;refine dP zr fun nq hdq=>?_
   refine⟨q,ys,x,t,w,hv,⟨oq,hk12 q oq ?_ ?_ hoq,hcq,nq,hdq⟩,r⟩
   ·rintro rfl
    refine iz hit fun o ho hc _=>?_
    rw[hoq]at ho;cases ho
    exact oY hcq hc rfl
   ·rintro rfl
    refine nU hD fun o es ep ho hc _=>?_
    rw[hoq]at ho;cases ho
    exact oY hcq hc.1 rfl
  ·refine kk h' tk (fun b o hb hb2 e=>hk b o hb hb2 (hk12 b o hb hb2 e)) ?_
   have:kvs.drop i=(x,w')::kvs.drop (i+1):=by
    have hlt':i<kvs.length:=by have:=hp.1;exact bC (Nat.le_of_eq hi) (Nat.le_of_eq this)
    rw[List.drop_eq_getElem_cons hlt']
    congr 1
    rw[List.getElem?_eq_getElem hlt']at hkv
    exact Option.some.inj hkv
   rw[this]
   exact hD'
theorem rj{c:Cx}{V:St}{h:Heap}(H:bc c V h):∀{vs:List Value} {kvs:List (Str×Value)},PySem.Paired (fun v (p:Str×Value)=>∃q,v= .ref q/\rd V q=some (.tup [.str p.1 0,p.2])) vs kvs->∀us:List Value,us.map er=vs->
  ∃rk:List (Str×Value),rk.map (fun p=>(p.1,er p.2))=kvs/\us.length=rk.length/\∀(i:Nat) (v:Value),us[i]? =some v->∃(q:Addr) (ys:Array Value) (x:Str) (t:Tok) (w:Value),v=Value.ref q/\IsTup h q ys/\ys.toList=[.str x t,w]/\rk[i]? =some (x,w):=by
 intro vs kvs P
 induction P with
 |nil=>
  intro us e
  obtain rfl:us=[]:=List.map_eq_nil_iff.mp e
  exact⟨[],rfl,rfl,fun i v hv=>by simp at hv⟩
 |cons a r ih=>
  rename_i v0 b _ _
  intro us e
  refine be a fun q e1 h1=>?_
  induction us using bD with
  |nil=>cases e
  |cons u us=>
   rw[List.map_cons]at e
   injection e with ea eb
   refine iz (ih us eb) fun rk f1 f2 f3=>?_
   subst e1
   obtain rfl:=a6 ea
   refine be (H.rd h1) fun ys ht hy=>?_
   refine dl (gm hy) fun x w hys ex ew=>?_
   refine dP (cO ex) fun t z1=>?_;subst z1
   refine⟨(b.1,w)::rk,by rw[List.map_cons,f1,ew],by simp[f2],fun i v hv=>?_⟩
   induction i using dQ with
   |zero=>
    simp at hv;subst hv
    exact⟨q,ys,b.1,t,w,rfl,ht,hys,rfl⟩
   |succ i=>exact f3 i v (by simpa using hv)
section
variable{c:Cx}{d:Nat}{V:St}{Q:Value->St->Prop}
theorem jg{l:Addr}{vs:List Value}{kvs:List (Str×Value)}(hr:rd V l=some (.list vs))(hp:PySem.Paired (fun v (p:Str×Value)=>∃q,v= .ref q/\rd V q=some (.tup [.str p.1 0,p.2])) vs kvs)(hz:kvs.length<=1000)
  (h:∀a ep,V a=none->Q (.ref a) (V.set a (.dict (merged [] kvs) ep))):Calls c d (.type "dict") [.ref l] V Q:=fun rvs e A s Q' E' R H k=>by
 obtain⟨v0,rfl,e1⟩:=fE e
 obtain rfl:=a6 e1
 obtain⟨xs,⟨n,ho⟩,hx⟩:=H.rd hr
 have hsz:=bY hx
 refine callType_codes (Q₁:=fun obj s₁=>obj= .ref s.heap.objs.size/\s₁={s with heap:=s.heap.push {cls:= .type "dict",data:= .dict #[]} }) PySem.F.kt_called_dict (PySem.F.kt_typeCall_dict_1 _) PySem.F.entry_dict_init (kt_code_dict_new _ ⟨rfl,rfl⟩) ?_
 rintro obj s₁ ⟨rfl,rfl⟩
 have hnew:(s.heap.push {cls:= .type "dict",data:= .dict #[]}).DictOf (PySem.strKind c.prog c.w) s.heap.objs.size []:=Heap.DictOf.new s.heap
 have ho':(s.heap.push {cls:= .type "dict",data:= .dict #[]}).get? l=some {cls:= .type "list",data:= .seq xs n}:=Heap.get?_push_of_some _ ho
 refine⟨hnew.typeIs,PySem.F.args_dict_init_2 _ _,?_⟩
 unfold Builtin.«dict.__init__»
 refine wpAny_bind ?_
 unfold Builtin.Dict.selfAndRest
 refine wpAny_bind (wpAny_notOrdered_dict hnew.typeIs ?_)
 show wpAny _ _ (pure (s.heap.objs.size,[Value.ref l])) _ _ _
 refine wpAny_pure ?_
 show wpAny _ _ (Builtin.Dict.updateFrom "dict.__init__" s.heap.objs.size (.ref l) [] .none) _ _ _
 unfold Builtin.Dict.updateFrom
 refine wpAny_bind (wpAny_typeOf (T:="list") ⟨_,ho',rfl⟩ ?_)
 rw[if_pos (by decide)]
 refine wpAny_bind (s8 ho' R.1 fun h1 tk1 hk1=>?_)
 simp only[Option.isNone_none,if_true]
 have hk01:∀b o,s.heap.get? b=some o->h1.get? b=some o:=fun b o e=>hk1 b o (Heap.get?_push_of_some _ e)
 have eK:h1.IsList l xs:=⟨_,hk01 _ _ ho,rfl,_,rfl⟩
 refine wpAny_bind (wpAny_rule (wpAny_bind (wpAny_pyIter_list eK ?_)))
 obtain⟨rk,f1,f2,f3⟩:=rj H hp xs.toList hx
 obtain⟨H1,S1⟩:=H.extra hk01
 have hD1:h1.DictOf (PySem.strKind c.prog c.w) s.heap.objs.size []:=by
  obtain⟨o,es,ep,ho,r⟩:=hnew
  exact⟨o,es,ep,hk1 _ _ ho,r⟩
 have hDlt:s.heap.objs.size<h1.objs.size:=by obtain⟨o,es,ep,ho,r⟩:=hD1;exact Heap.lt_size ho
 have hllt:l<s.heap.objs.size:=Heap.lt_size ho
 have hzr:rk.length<=1000:=by rw[←f1,List.length_map]at hz;exact hz
 refine wpAny_pure ⟨Code.quiet_builtin _ (by decide+kernel),?_⟩
 refine xq (prog:=c.prog) (w:=c.w) (it:=h1.objs.size) (l:=l) (D:=s.heap.objs.size) (xs:=xs) (kvs:=rk) hzr (Nat.ne_of_lt (Nat.lt_trans hllt hDlt)) (Nat.ne_of_lt hllt) (Nat.ne_of_lt hDlt) xs.size 0 (by simp) (Nat.le_refl _) R.1
  ⟨_,Heap.get?_push_size _ rfl,rfl,rfl⟩ (eK.push _) ⟨by rw[←f2];simp,fun i v hv=>?_⟩ (hD1.push _) fun h' tk hk hD'=>?_
 ·obtain⟨q,ys,x,t,w,e1,⟨o,ho,r⟩,r2⟩:=f3 i v (by rw[Array.getElem?_toList];exact hv)
  exact⟨q,ys,x,t,w,e1,⟨o,Heap.get?_push_of_some _ (hk01 _ _ ho),r⟩,r2⟩
 ·obtain⟨ep,hD'⟩:=hD'.dictAt
  obtain⟨H2,S2⟩:=H.alloc (h':=h') (a:=s.heap.objs.size) (o:= .dict (merged [] kvs) ep) (a9 _)
   (fun b ob q=>hk b ob (Nat.ne_of_lt (Nat.lt_trans (Heap.lt_size q) hDlt)) (Nat.ne_of_lt (Heap.lt_size q)) (Heap.get?_push_of_some _ (hk01 _ _ q)))
   ⟨v9 H,_,hD',by rw[List.drop_zero,m9,f1];rfl⟩
  exact⟨rfl,k (.ref s.heap.objs.size) h' tk _ H2 S2 (h _ ep H.freshSize)⟩
end
noncomputable abbrev Kv:=List (Str×Value)
def iA(V:St)(v:Value):Option Kv->Prop
 |none=>v= .none
 |some kvs=>∃a ep,v= .ref a/\V a=some (.ro (.dict kvs ep))
theorem iA.mono{V V':St}(L:Ro V V'):∀{v:Value} {o:Option Kv},iA V v o->iA V' v o
 |_,none,h=>h
 |_,some _,⟨a,ep,e,h⟩=>⟨a,ep,e,L _ _ h⟩
theorem iA.plain{V:St}{v:Value}{o:Option Kv}(h:iA V v o):∀id,v≠ .builtin id:=by
 intro id q
 induction o with
 |none=>rw[h]at q;cases q
 |some k=>refine fM h fun a ep e _=>?_;rw[e]at q;cases q
theorem iA.none{V:St}{v:Value}{o:Option Kv}(h:iA V v o):(v== .none)=o.isNone:=by
 induction o with
 |none=>rw[h];rfl
 |some k=>refine fM h fun a ep e _=>?_;rw[e];rfl
noncomputable def bq:Option Kv->Option Kv->Option Kv
 |some a,some b=>some (merged a b)
 |_,_=>none
section
variable{c:Cx}{d:Nat}{env:Env}{l:au}{V:St}{p pos:Pos}{Q:Value->St->Prop}{QB:Bool->St->Prop}{QF:Fl->au->St->Prop}{QL:au->St->Prop}{ns:List (Str×NameKind)}
theorem jh(KT:HK c){v1 v2:Value}{o1 o2:Option Kv}(h1:iA V v1 o1)(h2:iA V v2 o2)(hz:∀a b,o1=some a->o2=some b->a.length+b.length<=sizeLine)
  (h:∀v V',Le [] V V'->iA V' v (bq o1 o2)->Q v V'):ab c 1 (.ref 429) [v1,v2] V Q:=by
 refine ab.frz (eC (x0:="one") (x1:="other") KT ?_)
 intro env K
 try dsimp only at K
 nofun
 refine iP h1.plain h1.none ?_
 induction o1 with
 |none=>
  nofun
  exact⟨[],h _ _ (.refl ..) rfl⟩
 |some k1=>
  nofun
  refine iP h2.plain h2.none ?_
  induction o2 with
  |none=>
   nofun
   exact⟨[],h _ _ (.refl ..) rfl⟩
  |some k2=>
   refine fM h1 fun a1 e1 z2 g1=>?_;subst z2
   refine fM h2 fun a2 e2 z2 g2=>?_;subst z2
   have hz':=hz _ _ rfl rfl
   refine fg (ux (lt (yh (jG (lt (dm ?_))))))
   refine aG ?_
   refine br ?_ (by rfl) (by rfl) (by rfl)
   repeat walk_at "me"
   refine oe (af g1) (by exact bK hz') fun a ep' ha=>?_
   walk_at "me"
   dsimp only
   refine aG ?_
   refine qL ?_ (by rfl)
   repeat walk_at "me"
   have ga:(V.set a (.dict k1 ep')) a=some (.dict k1 ep'):=aj ..
   have L:Le [] V (V.set a (.dict k1 ep')):= .new ha
   have hne:a≠a2:=by rintro rfl;rw[ha]at g2;cases g2
   refine pQ (af ga) ⟨trivial,?_⟩
   repeat walk_at "me"
   refine pR hne ga (af (L.ro _ _ g2)) hz' fun ep2=>?_
   dsimp only
   refine aG ?_
   repeat walk_at "me"
   refine⟨[a],?_⟩
   have hs:((V.set a (.dict k1 ep')).set a (.dict (merged k1 k2) ep2))=V.set a (.dict (merged k1 k2) ep2):=by funext b;unfold St.set;split<;>rfl
   rw[hs]
   exact h _ _ (aR (.new ha) (by simpa using ha)) ⟨a,ep2,rfl,aN List.mem_cons_self (aj ..) rfl⟩
noncomputable def fK(xs:List Str)(p:Str->Bool):Kv:=(xs.filter p).foldl (fun acc x=>stored acc x (.bool true)) []
theorem fw(xs:List Str)(p:Str->Bool):(fK xs p).length<=xs.length:=by
 unfold fK
 have:∀(ys:List Str) (acc:Kv),(ys.foldl (fun acc x=>stored acc x (.bool true)) acc).length<=acc.length+ys.length:=by
  intro ys
  induction ys with
  |nil=>intro acc;exact Nat.le_refl _
  |cons y r ih=>
   intro acc
   rw[List.foldl_cons,List.length_cons]
   refine Nat.le_trans (ih _) ?_
   have:(stored acc y (.bool true)).length<=acc.length+1:=by
    unfold stored;split
    ·rw[List.length_map];lia
    ·simp
   lia
 refine Nat.le_trans (this _ _) ?_
 have:=List.length_filter_le p xs
 simp;exact this
theorem gJ(xs:List Str)(p:Str->Bool)(x:Str):fK (xs++ [x]) p=if p x=true then stored (fK xs p) x (.bool true)else fK xs p:=by
 unfold fK
 rw[List.filter_append]
 by_cases h:p x=true
 ·rw[if_pos h,List.filter_cons_of_pos h,List.foldl_append];rfl
 ·rw[if_neg h,List.filter_cons_of_neg h,List.foldl_append];rfl
noncomputable def ch(k:Kv):List Str:=k.map (·.1)
noncomputable def a7(o:Option Kv)(xs:List Str):Option Kv:=o.map fun k=>fK (ch k) fun x=> !xs.contains x
theorem am{α:Type}{xs:List α}{i:Nat}{x:α}(h:xs[i]? =some x):xs.take (i+1)=xs.take i++ [x]:=by rw[List.take_add_one,h];rfl
theorem sf{a:Addr}{xs:List Str}{x:Str}(hr:rd V a=some (.list (xs.map aJ)))(h:Q (.bool (!xs.contains x)) V):J2 c d (compareOp .NotIn) (.str x 0) (.ref a) V Q:=cm fun v w e e' A s Q' E' R H k=>by
 refine dP (cO e) fun t z1=>?_;subst z1;obtain rfl:=a6 e'
 refine be (H.rd hr) fun us hl hx=>?_
 have hi:StrsAre us.toList xs:=rW hx
 refine SeqInW.notIn_listW (isStrOf x) (fun y hy=>eq_isStrOf x t hi y (by simpa using hy)) hl.isList ?_
 have:us.any (isStrOf x)=xs.contains x:=by
  rw[←Array.any_toList,any_isStrOf x hi,Bool.eq_iff_iff];simp
 rw[this];exact k _ s.toks h
end
section
variable{c:Cx}{d:Nat}{env:Env}{l:au}{V:St}{p pos:Pos}{Q:Value->St->Prop}{QB:Bool->St->Prop}{QF:Fl->au->St->Prop}{QL:au->St->Prop}{ns:List (Str×NameKind)}
theorem gK(KT:HK c){v1:Value}{o1:Option Kv}{b:Addr}{xs:List Str}(h1:iA V v1 o1)(h2:rd V b=some (.list (xs.map aJ)))(hz:∀a,o1=some a->a.length<=sizeLine)
  (h:∀v V',Le [] V V'->iA V' v (a7 o1 xs)->Q v V'):ab c 1 (.ref 439) [v1,.ref b] V Q:=by
 refine ab.frz (eC (x0:="needs") (x1:="names") KT ?_)
 intro env K
 try dsimp only at K
 nofun
 refine iP h1.plain h1.none ?_
 nofun
 induction o1 with
 |none=>
  nofun
  exact⟨[],h _ _ (.refl ..) rfl⟩
 |some k1=>
  refine fM h1 fun a ep z2 g1=>?_;subst z2
  have hz':=hz _ rfl
  nofun
  refine⟨_,fJ (af g1),fun cenv CK=>?_⟩
  let F:I4:=fun i acc l' V' G=>V=V'->Lk l' "names" (.ref b)->(acc= .d (fK ((ch k1).take i) fun x=> !xs.contains x))->G
  refine aq (k1.map fun p=>aJ p.1) F ?_ ?_ ?_ k1.length 0 (by simp) (by exact fun _ k=>k rfl (by rfl') rfl)
  ·rintro i acc l' V' rfl - -
   exact gI (af g1) i
  ·rintro i x acc l' V' hx R hR rfl hl rfl
   rw[List.getElem?_map,Option.map_eq_some_iff]at hx
   obtain⟨⟨y,w⟩,hy,rfl⟩:=hx
   have hk:(ch k1)[i]? =some y:=by unfold ch;rw[List.getElem?_map,hy];rfl
   unfold aJ
   nofun
   refine sf h2 ?_
   nofun
   by_cases hc:(!xs.contains y)=true
   ·refine bu hc ?_
    nofun
    refine⟨y,rfl,?_,(hR _ _ _ _ fun _ k=>k rfl (dD (by kernel_rfl) hl) (by rw[am hk,gJ,if_pos hc]))⟩
    refine Nat.le_trans (fw _ _) ?_
    rw[List.length_take]
    unfold ch
    rw[List.length_map]
    lia
   ·refine bz hc ?_
    exact(hR _ _ _ _ fun _ k=>k rfl (dD (by kernel_rfl) hl) (by rw[am hk,gJ,if_neg hc]))
  ·rintro acc l' V' rfl -rfl
   intro a' ha'
   unfold Mine.gG
   intro ep'
   refine⟨[a'],h _ _ (aR (.new ha') (by simpa using ha')) ?_⟩
   refine⟨a',ep',rfl,aN List.mem_cons_self ?_ rfl⟩
   rw[aj]
   have:List.take (List.length (k1.map fun p=>aJ p.1)) (ch k1)=ch k1:=by rw[List.take_of_length_le];simp[ch]
   rw[this]
theorem hO(KT:HK c){a b:Addr}{k1 k2:List (Str×Value)}{e1 e2:Nat}(h1:rd V a=some (.dict k1 e1))(h2:rd V b=some (.dict k2 e2))(hz:k1.length+k2.length<=sizeLine)
  (h:∀x ep V',Le [] V V'->V x=none->V' x=some (.ro (.dict (merged k1 k2) ep))->Q (.ref x) V'):ab c 1 (.ref 446) [.ref a,.ref b] V Q:=by
 refine ab.frz (eC (x0:="env") (x1:="more") KT ?_)
 intro env K
 try dsimp only at K
 nofun
 refine oe h1 (by exact bK hz) fun x ep' hx=>?_
 nofun
 have ga:(V.set x (.dict k1 ep')) x=some (.dict k1 ep'):=aj ..
 have hne:x≠b:=by rintro rfl;unfold rd at h2;rw[hx]at h2;cases h2
 refine pQ (af ga) ⟨trivial,?_⟩
 nofun
 refine pR hne ga (by unfold rd;rw[aA _ _ (Ne.symm hne)];exact h2) hz fun ep2=>?_
 nofun
 refine⟨[x],?_⟩
 have hs:((V.set x (.dict k1 ep')).set x (.dict (merged k1 k2) ep2))=V.set x (.dict (merged k1 k2) ep2):=by funext b;unfold St.set;split<;>rfl
 rw[hs]
 exact h _ ep2 _ (aR (.new hx) (by simpa using hx)) hx (aN List.mem_cons_self (aj ..) rfl)
structure Sg where
 flags:List Bool
 free:Kv
 div:Bool
def tN(V:St)(v:Value)(s:Sg):Prop:=∃fa fr ep,IA V v 411 [("flags",.ref fa),("free",.ref fr),("diverges",.bool s.div)]/\V fa=some (.ro (.list (s.flags.map .bool)))/\V fr=some (.ro (.dict s.free ep))
theorem tN.mono{V V':St}{v:Value}{s:Sg}(h:tN V v s)(L:Ro V V'):tN V' v s:=by obtain⟨fa,fr,ep,h1,h2,h3⟩:=h;exact⟨fa,fr,ep,h1.mono L,L _ _ h2,L _ _ h3⟩
noncomputable def eN(n:Nat):Sg:=⟨List.replicate n true,[],true⟩
theorem lB(KT:HK c){n:Nat}(hn:n<=1000)(h:∀v V',Le [] V V'->tN V' v (eN n)->Q v V'):ab c 3 (.ref 422) [.int n 0] V Q:=by
 refine ab.frz (cZ (x0:="many") KT ?_)
 intro env K
 try dsimp only at K
 nofun
 refine⟨by rw[sizeLine_eq];decide,fun a ha=>?_⟩
 nofun
 refine y0 (af (aj ..)) rfl (by simpa using hn) (by lia) fun x hx=>?_
 nofun
 have L1:Le [] V (V.set a (.list [.bool true])):= .new ha
 have L2:=L1.new1 hx (o:= .list (List.replicate n [Value.bool true]).flatten)
 intro y ep V2 L23 hy hy1
 nofun
 have L3:=L2.trans L23
 refine ab.at (uL (d:=0) KT fun v V' L hi=>?_) (by lia)
 nofun
 refine⟨[x],h _ _ (aR (L3.trans L) (by simpa using L1.none0 hx nn)) ⟨x,y,ep,hi.mono (aD _ _),aN List.mem_cons_self (L.at0 (L23.at0 ?_)) rfl,aD _ _ _ _ (L.ro _ _ hy1)⟩⟩
 rw[aj]
 unfold eN
 congr 2
 simp
end
noncomputable def eO(f:Option Kv)(o:Option Kv):Option Kv:=match o with
 |none=>f
 |some k=>match f with
  |none=>some k
  |some g=>some (fK (ch g) fun x=>(k.lookup x).isSome)
noncomputable def cX(os:List (Option Kv)):Option Kv:=os.foldl eO none
theorem Paired.get{α β:Type}{R:α->β->Prop}{xs:List α}{ys:List β}(p:PySem.Paired R xs ys):∀{i:Nat} {x:α},xs[i]? =some x->∃y,ys[i]? =some y/\R x y:=by
 induction p with
 |nil=>intro i x h;simp at h
 |cons hx r ih=>
  intro i x h
  induction i using dQ with
  |zero=>simp at h;subst h;exact⟨_,rfl,hx⟩
  |succ i=>simp at h;exact ih h
theorem bw{α β:Type}{f:β->α->β}{b:β}{xs:List α}{i:Nat}{x:α}(h:xs[i]? =some x):(xs.take (i+1)).foldl f b=f ((xs.take i).foldl f b) x:=by
 rw[am h,List.foldl_append];rfl
section
variable{c:Cx}{d:Nat}{env:Env}{l:au}{V:St}{p pos:Pos}{Q:Value->St->Prop}{QB:Bool->St->Prop}{QF:Fl->au->St->Prop}{QL:au->St->Prop}{ns:List (Str×NameKind)}
def Fd(V V':St)(v:Value):Option Kv->Prop
 |none=>v= .none
 |some k=>∃a ep,v= .ref a/\V a=none/\V' a=some (.dict k ep)
theorem Fd.none{V V':St}{v:Value}{o:Option Kv}(h:Fd V V' v o):(v== .none)=o.isNone:=by
 induction o with
 |none=>rw[h];rfl
 |some k=>refine fM h fun a ep e _=>?_;rw[e];rfl
theorem Fd.plain{V V':St}{v:Value}{o:Option Kv}(h:Fd V V' v o):∀id,v≠ .builtin id:=by
 intro id q
 induction o with
 |none=>rw[h]at q;cases q
 |some k=>refine fM h fun a ep e _=>?_;rw[e]at q;cases q
theorem tc(KT:HK c){b:Addr}{vs:List Value}{os:List (Option Kv)}(h2:rd V b=some (.list vs))(hp:PySem.Paired (iA V) vs os)(hz:∀k,some k∈os->k.length<=sizeLine)(hb:∃o,V b=some o)
  (hz2:∀i k,(os.take i).foldl eO none=some k->k.length<=sizeLine)
  (h:∀v V',Le [] V V'->iA V' v (cX os)->Q v V'):ab c 1 (.ref 434) [.ref b] V Q:=by
 refine ab.frz (cZ (x0:="lots") KT ?_)
 intro env K
 try dsimp only at K
 refine dP hb fun ob hb=>?_
 have hob:ob.bare= .list vs:=by rw[af hb]at h2;exact Option.some.inj h2
 refine aG (br ?_ rfl rfl rfl)
 nofun
 refine⟨_,ax h2,?_⟩
 let F:I3:=fun i l' V' G=>Le [] V V'->Lk l' "lots" (.ref b)->∀fv,Lk l' "found" fv->Fd V V' fv ((os.take i).foldl eO none)->G
 refine cW vs F ?_ ?_ ?_ vs.length 0 (Nat.zero_add _) (by exact fun _ κ=>κ (.refl ..) (by rfl') .none (by rfl') rfl)
 ·rintro i l' V' L - - - -
  exact aE (by rw[af (L.at0 hb),hob]) i
 ·rintro i x l' V' hx R hR L hl fv hf hfd
  refine be (Paired.get hp hx) fun o ho hox=>?_
  have hox':=hox.mono L.ro
  nofun
  refine ip hox.plain hox.none ?_
  nofun
  have hs:(os.take (i+1)).foldl eO none=eO ((os.take i).foldl eO none) o:=bw ho
  induction o with
  |none=>
   nofun
   exact(fun _ κ=>κ L (dD (by kernel_rfl) hl) fv (dD (by kernel_rfl) hf) (by rw[hs];exact hfd))
  |some k=>
   refine bu rfl ?_
   refine fM hox' fun a ep z2 g1=>?_;subst z2
   have hzk:=hz k (List.mem_of_getElem? ho)
   refine aG (br ?_ rfl rfl rfl)
   nofun
   refine iP hfd.plain hfd.none ?_
   nofun
   induction hfo:(os.take i).foldl eO none with
   |none=>
    rw[hfo]at hfd
    nofun
    refine oe (af g1) hzk fun y ep' hy=>?_
    nofun
    exact fun _ κ=>κ (L.new1 hy) (by rfl') _ (by rfl') (by rw[hs,hfo];exact⟨y,ep',rfl,L.none0 hy nn,aj ..⟩)
   |some g=>
    rw[hfo]at hfd
    refine dl hfd fun f ef z2 hfn hfs=>?_;subst z2
    nofun
    have hzg:=hz2 i g hfo
    nofun
    refine⟨_,fJ (af hfs),fun cenv CK=>?_⟩
    let F:I4:=fun j acc l2 V2 G=>V'=V2->Lk l2 "needs" (.ref a)->(acc= .d (fK ((ch g).take j) fun x=>(k.lookup x).isSome))->G
    refine aq (g.map fun p=>aJ p.1) F ?_ ?_ ?_ g.length 0 (by simp) (by exact fun _ k=>k rfl (by rfl') rfl)
    ·rintro j acc l2 V2 rfl - -
     exact gI (af hfs) j
    ·rintro j x acc l2 V2 hx R hR rfl fZ rfl
     rw[List.getElem?_map,Option.map_eq_some_iff]at hx
     refine be hx fun z0 hy z2=>?_;obtain⟨y,w⟩:=z0;subst z2
     have hk:(ch g)[j]? =some y:=by unfold ch;rw[List.getElem?_map,hy];rfl
     unfold aJ
     nofun
     refine nb (af g1) ?_
     nofun
     by_cases hc:(k.lookup y).isSome=true
     ·refine bu hc ?_
      nofun
      refine⟨y,rfl,?_,(hR _ _ _ _ fun _ k=>k rfl (dD (by kernel_rfl) fZ) (by rw[am hk,gJ,if_pos hc]))⟩
      refine Nat.le_trans (fw _ _) ?_
      rw[List.length_take]
      unfold ch
      rw[List.length_map]
      lia
     ·refine bz hc ?_
      exact(hR _ _ _ _ fun _ k=>k rfl (dD (by kernel_rfl) fZ) (by rw[am hk,gJ,if_neg hc]))
    ·rintro acc l2 V2 rfl -rfl
     intro a' ha'
     unfold Mine.gG
     intro ep'
     nofun
     have e:List.take (List.length (g.map fun p=>aJ p.1)) (ch g)=ch g:=by rw[List.take_of_length_le];simp[ch]
     rw[e]
     exact fun _ κ=>κ (L.new1 ha') (by rfl') _ (by rfl') (by rw[hs,hfo];exact⟨a',ep',rfl,L.none0 ha' nn,aj ..⟩)
 ·rintro l' V' L hl fv hf hfd
  rw[show os.take vs.length=os from List.take_of_length_le (by rw[hp.length];exact Nat.le_refl _)]at hfd
  change Fd V V' fv (cX os)at hfd
  nofun
  induction ho:cX os with
  |none=>
   rw[ho]at hfd h
   obtain rfl:fv= .none:=hfd
   exact⟨[],h _ _ L rfl⟩
  |some k=>
   rw[ho]at hfd h
   refine dl hfd fun a ep z2 h0 h1=>?_;subst z2
   exact⟨[a],h _ _ (aR L (by simpa using h0)) ⟨a,ep,rfl,aN List.mem_cons_self h1 rfl⟩⟩
end
def vX(n:Nat)(V:St)(pv:Value)(b:Str×Value×ai):Prop:=∃q,pv= .ref q/\V q=some (.ro (.tup [.str b.1 0,b.2.1]))/\Rp n V b.2.1 b.2.2
theorem vX.mono{n:Nat}{V V':St}{pv:Value}{b:Str×Value×ai}(h:vX n V pv b)(L:Ro V V'):vX n V' pv b:=by obtain⟨q,h1,h2,h3⟩:=h;exact⟨q,h1,L _ _ h2,h3.mono L⟩
noncomputable def eP(b:Str×Value×ai):Str×ai:=(b.1,b.2.2)
theorem no{n:Nat}{V:St}:∀{pvs:List Value} {bs:List (Str×ai)},PySem.Paired (fun pv (p:Str×ai)=>∃q tv,pv= .ref q/\V q=some (.ro (.tup [.str p.1 0,tv]))/\Rp n V tv p.2) pvs bs->
  ∃ts:List (Str×Value×ai),ts.map eP=bs/\PySem.Paired (vX n V) pvs ts:=by
 intro pvs bs p
 induction p with
 |nil=>exact⟨[],rfl,.nil⟩
 |cons a r ih=>
  rename_i b _ _
  refine dl a fun q tv h1 h2 h3=>?_
  refine be ih fun ts e h=>?_
  exact⟨(b.1,tv,b.2)::ts,by rw[List.map_cons,e];rfl,.cons ⟨q,h1,h2,h3⟩ h⟩
noncomputable def ed(acc:Kv)(b:Str×Value×ai):Kv:=if(bh b.2.2==183)=true then stored acc b.1 b.2.1 else acc
noncomputable def mN(ts:List (Str×Value×ai)):Kv:=ts.foldl ed []
theorem rm(acc:Kv)(b:Str×Value×ai):(ed acc b).length<=acc.length+1:=by
 unfold ed stored
 split
 ·split<;>simp
 ·lia
theorem uW(ts:List (Str×Value×ai)):(mN ts).length<=ts.length:=by
 have:∀(ts:List (Str×Value×ai)) (acc:Kv),(ts.foldl ed acc).length<=acc.length+ts.length:=by
  intro ts
  induction ts with
  |nil=>intro acc;exact Nat.le_refl _
  |cons b r ih=>intro acc;rw[List.foldl_cons,List.length_cons];have:=ih (ed acc b);have:=rm acc b;lia
 have:=this ts []
 unfold mN
 simpa using this
noncomputable def lC(bs:List (Str×ai)):Bool:=bs.all fun b=> !(bh b.2==183)
theorem uX{ts:List (Str×Value×ai)}(h:lC (ts.map eP)=true):mN ts=[]:=by
 unfold mN
 induction ts with
 |nil=>rfl
 |cons b r ih=>
  unfold lC at h ih
  rw[List.map_cons,List.all_cons,Bool.and_eq_true]at h
  rw[List.foldl_cons]
  have:ed [] b=[]:=by
   unfold ed
   have h1:=h.1
   unfold eP at h1
   rw[if_neg (by intro q;rw[q]at h1;cases h1)]
  rw[this];exact ih h.2
noncomputable abbrev hU:=List (Str×Sg)
def fO(V:St)(v:Value)(ρ:hU):Prop:=∃a ep kvs,v= .ref a/\V a=some (.ro (.dict kvs ep))/\PySem.Paired (fun(p:Str×Value) (q:Str×Sg)=>p.1=q.1/\tN V p.2 q.2) kvs ρ
theorem fO.mono{V V':St}{v:Value}{ρ:hU}(h:fO V v ρ)(L:Ro V V'):fO V' v ρ:=by
 refine nU h fun a ep kvs e h1 h2=>?_
 exact⟨a,ep,kvs,e,L _ _ h1,Paired.imp (fun p q h=>⟨h.1,h.2.mono L⟩) h2⟩
section
variable{c:Cx}{d:Nat}{env:Env}{l:au}{V:St}{p pos:Pos}{Q:Value->St->Prop}{QB:Bool->St->Prop}{QF:Fl->au->St->Prop}{QL:au->St->Prop}{ns:List (Str×NameKind)}
theorem dF{v:Value}{C f:Addr}{fs:List (Str×Value)}{m:Str}{QM:Value->List Value->St->Prop}(h:IA V v C fs)(KT:HK c)(hv:fs.lookup m=none)(hC:dC (Hp c.w.params) C=true)
  (hf:findIn (Hp c.w.params) (.ref C) m=some (some (.ref f))) (ht:isFn (Hp c.w.params) (.ref f)=true) (hq:QM (.ref f) [v] V):gT c d m v V QM:=by
 refine dl h fun x dx z2 h1 h2=>?_;subst z2
 exact kS (af h1) (af h2) hv (d8 KT hC) (by rw[KT];exact hf) (by rw[KT];exact ht) hq
theorem uY{a b:Addr}{ks:List (Str×Value)}{e1 e2:Nat}(h1:rd V a=some (.dict ks e1))(h2:rd V b=some (.dict [] e2))(h:Q (.bool ks.isEmpty) V):J2 c d (compareOp .Eq) (.ref a) (.ref b) V Q:=cm fun v w e e' A s Q' E' R H k=>by
 obtain rfl:=a6 e;obtain rfl:=a6 e'
 obtain⟨hs,m,hm,rfl⟩:=eG H h1
 obtain⟨hs2,m2,hm2,hm0⟩:=eG H h2
 obtain rfl:m2=[]:=List.map_eq_nil_iff.mp hm0
 have hu:A.units<cLine:=by have:=R.2.2;exact bK this
 refine keq_eq (r:=true) (knd:=PySem.strKind c.prog c.w) hs hs2 hm.dictOf hm2.dictOf hu (fun e=>?_) ?_
 ·obtain rfl:m=[]:=List.length_eq_zero_iff.mp e
  exact .nil
 ·have:(m.length==([]:List (Str×Value)).length&&true)=(m.map fun p=>(p.1,er p.2)).isEmpty:=by cases m<;>rfl
  rw[this];exact k _ s.toks h
theorem gQ(KT:HK c){n:Nat}{b:Addr}{pvs:List Value}{ts:List (Str×Value×ai)}(h1:V b=some (.ro (.list pvs)))(hp:PySem.Paired (vX n V) pvs ts)(hz:ts.length<=1000)
  (h:∀a ep V',Le [] V V'->V a=none->V' a=some (.ro (.dict (mN ts) ep))->Q (.ref a) V'):ab c 1 (.ref 484) [.ref b] V Q:=by
 refine ab.frz (cZ (x0:="binds") KT ?_)
 intro env K
 try dsimp only at K
 nofun
 refine⟨_,ax (af h1),fun cenv CK=>?_⟩
 let F:I4:=fun i acc l' V' G=>Le [] V V'->acc= .d ((ts.take i).foldl ed [])->G
 refine aq pvs F ?_ ?_ ?_ pvs.length 0 (Nat.zero_add _) (by exact fun _ k=>k (.refl ..) rfl)
 ·rintro i acc l' V' L -
  exact aE (af (L.ro _ _ h1)) i
 ·rintro i x acc l' V' hx R hR L rfl
  obtain⟨⟨y,tv,t⟩,ht,hb⟩:=Paired.get hp hx
  refine iz (hb.mono L.ro) fun q z1 g1 g2=>?_;subst z1
  dsimp only at g1 g2
  refine dp (af g1) rfl rfl ?_
  nofun
  refine d9 KT g2 rfl ?_
  nofun
  have hst:ed ((ts.take i).foldl ed []) (y,tv,t)=if(bh t==183)=true then stored ((ts.take i).foldl ed []) y tv else(ts.take i).foldl ed []:=rfl
  by_cases hc:(bh t==183)=true
  ·refine bu hc ?_
   nofun
   refine⟨y,rfl,?_,(hR _ _ _ _ fun _ k=>k L (by rw[bw ht,hst,if_pos hc]))⟩
   have:=uW (ts.take i)
   unfold mN at this
   rw[List.length_take]at this
   rw[sizeLine_eq]
   exact Nat.le_trans this (jV (fQ hz rfl))
  ·refine bz hc ?_
   exact(hR _ _ _ _ fun _ k=>k L (by rw[bw ht,hst,if_neg hc]))
 ·rintro acc l' V' L rfl
  intro a' ha'
  unfold Mine.gG
  intro ep'
  rw[show ts.take pvs.length=ts from List.take_of_length_le (by rw[hp.length];exact Nat.le_refl _)]
  exact⟨[a'],h a' ep' _ (aR (L.new1 ha') (by simpa using L.none0 ha' nn)) (L.none0 ha' nn) (aN List.mem_cons_self (aj ..) rfl)⟩
theorem qf(KT:HK c){a:Addr}{ep:Nat}{v:Value}(h1:V a=some (.ro (.dict [] ep)))
  (h:∀a ep V',Le [] V V'->V a=none->V' a=some (.ro (.dict [] ep))->Q (.ref a) V'):ab c 1 (.ref 489) [.ref a,v] V Q:=by
 refine ab.frz (eC (x0:="functions") (x1:="env") KT ?_)
 intro env K
 try dsimp only at K
 nofun
 refine⟨_,fJ (af h1),fun cenv CK=>?_⟩
 let F:I4:=fun i acc l' V' G=>V=V'->acc= .d []->G
 refine aq [] F ?_ ?_ ?_ 0 0 rfl (by exact fun _ k=>k rfl rfl)
 ·rintro i acc l' V' rfl -
  exact gI (af h1) i
 ·rintro i x acc l' V' hx _ _
  simp at hx
 ·rintro acc l' V' rfl rfl
  intro f hf
  unfold Mine.gG
  intro ep'
  nofun
  intro z ez V2 L23 hz hz1
  have L1:Le [] V (V.set f (.dict [] ep')):= .new hf
  have L2:=L1.trans L23
  refine uY (af (L2.ro _ _ h1)) (af hz1) ?_
  nofun
  refine iZ ?_
  refine j6 ?_
  nofun
  exact⟨[f],h f ep' _ (aR L2 (by simpa using hf)) hf (aN List.mem_cons_self (L23.at0 (aj ..)) rfl)⟩
theorem ji(KT:HK c){n:Nat}{v ev:Value}{bs:List (Str×ai)}{b:ai}{r:Bool}{ρ:hU}(h1:Rp (n+1) V v (.letn bs b r))(h2:fO V ev ρ)(hl:lC bs=true)(hz:bs.length<=1000)(hz2:ρ.length<=1000)
  (h:∀v' V',Le [] V V'->fO V' v' ρ->Q v' V'):ab c 3 (.ref 494) [v,ev] V Q:=by
 refine eC (x0:="expr") (x1:="env") KT ?_
 intro env K
 try dsimp only at K
 refine ku h1 fun a pvs bv i1 i2 i3 i4=>?_
 refine be (no i3) fun ts hts hpt=>?_
 refine nU h2 fun ea eep ekvs z3 e1 e2=>?_;subst z3
 have hzt:ts.length<=1000:=by rw[←hts,List.length_map]at hz;exact hz
 have hfn:mN ts=[]:=uX (by rw[hts];exact hl)
 have hze:ekvs.length<=1000:=by rw[e2.length];exact hz2
 nofun
 refine ao i1 KT (aM _) (bf _) rfl rfl ?_
 nofun
 refine ab.at (gQ KT i2 hpt hzt fun f ef V1 L1 hf0 hf1=>?_) (by lia)
 rw[hfn]at hf1
 nofun
 refine ao (i1.mono L1.ro) KT (aM _) (bp _) rfl rfl ?_
 nofun
 have gV:∀x ep V2 V3,Le [] V V2->Le [] V2 V3->V3 x=some (.ro (.dict (merged ekvs []) ep))->Q (.ref x) V3:=fun x ep V2 V3 L2 L3 hx=>
  h _ _ (L2.trans L3) ⟨x,ep,ekvs,rfl,hx,Paired.imp (fun p q h=>⟨h.1,h.2.mono (L2.trans L3).ro⟩) e2⟩
 induction r with
 |true=>
  nofun
  refine ab.at (qf KT hf1 fun g eg V2 L2 hg0 hg1=>?_) (by lia)
  have L12:=L1.trans L2
  nofun
  exact ab.at (hO KT (af (L12.ro _ _ e1)) (af hg1) (by rw[sizeLine_eq];simp;lia) fun x ep V3 L3 hx0 hx1=>by
   nofun
   exact gV x ep V2 V3 L12 L3 hx1) (by lia)
 |false=>
  nofun
  refine⟨_,fJ (af hf1),fun cenv CK=>?_⟩
  let F:I4:=fun i acc l' V' G=>V1=V'->acc= .d []->G
  refine aq [] F ?_ ?_ ?_ 0 0 rfl (by exact fun _ k=>k rfl rfl)
  ·rintro i acc l' V' rfl -
   exact gI (af hf1) i
  ·rintro i x acc l' V' hx _ _
   simp at hx
  ·rintro acc l' V' rfl rfl
   intro g hg
   unfold Mine.gG
   intro ep'
   have L12:=L1.new1 hg (o:= .dict [] ep')
   nofun
   exact ab.at (hO KT (af (L12.ro _ _ e1)) (af (aj ..)) (by rw[sizeLine_eq];simp;lia) fun x ep V3 L3 hx0 hx1=>by
    nofun
    exact gV x ep _ V3 L12 L3 hx1) (by lia)
end
noncomputable def kh:Value:= .bool true
noncomputable def e8(nd:ai->Option Kv)(ps:List Str)(b:ai):Sg:=match nd b with
 |none=>eN ps.length
 |some k=>⟨ps.map fun x=>(k.lookup x).isSome,fK (ch k) fun x=> !ps.contains x,false⟩
noncomputable def qg(nd:ai->Option Kv)(as:List ai):Option Kv:=as.foldl (fun f a=>bq f (nd a)) (some [])
noncomputable def fn(nd:ai->Option Kv)(f:Option Kv)(p:Bool×ai):Option Kv:=if p.1=true then bq f (nd p.2)else f
noncomputable def db(nd:ai->Option Kv)(found:Kv)(known:Option Sg)(as:List ai):Option Kv:=match known with
 |none=>some found
 |some s=>if as.length<s.flags.length then some found else if s.div=true then none else(s.flags.zip as).foldl (fn nd) (bq (some found) (some s.free))
noncomputable def eQ(nd:ai->Option Kv)(x:Str)(alts:List (Int×ai))(o:Option ai):List (Option Kv):=
 (alts.map fun p=>a7 (nd p.2) [x])++(match o with|none=>[] |some t=>[a7 (nd t) [x]])
structure WB where
 needs:Option Kv
 waiting:List (Str×ai)
 more:Bool
noncomputable def aH(nd:ai->Option Kv)(s:WB)(x:Str):WB:=match s.needs,s.waiting.lookup x with
 |some k,some t=>if(k.lookup x).isSome=true then⟨bq (some k) (nd t),s.waiting.filter (fun p=>decide (p.1≠x)),true⟩else s
 |_,_=>s
noncomputable def bx(nd:ai->Option Kv)(xs:List Str):Nat->Option Kv->List (Str×ai)->Option Kv
 |0,o,_=>o
 |f+1,none,_=>none
 |f+1,some k,w=>
  let s:=xs.foldl (aH nd) ⟨some k,w,false⟩
  if s.more=true then bx nd xs f s.needs s.waiting else s.needs
noncomputable def a8:Nat->hU->ai->Option Kv
 |0,_,_=>none
 |n+1,ρ,t=>match t with
  | .var x=>some [(x,kh)]
  | .lit _=>some []
  | .lam .. =>some []
  | .con .. =>some []
  | .prim op as=>if op==("error":Str)then none else qg (a8 n ρ) as
  | .app f as=>match f with
    | .var x=>db (a8 n ρ) [(x,kh)] (ρ.lookup x) as
    | .lam ps b=>db (a8 n ρ) [] (some (e8 (a8 n ρ) ps b)) as
    |f=>a8 n ρ f
  | .case e x alts o=>bq (a8 n ρ e) (cX (eQ (a8 n ρ) x alts o))
  | .letn bs b _=>a7 (bx (a8 n ρ) (bs.map (·.1)) (bs.length+1) (a8 n ρ b) bs) (bs.map (·.1))
def Wf:Nat->ai->Prop
 |0,_=>False
 |n+1,t=>match t with
  | .var _=>True
  | .lit _=>True
  | .prim _ as=>as.length<=4/\∀a∈as,Wf n a
  | .con _ as=>as.length<=4/\∀a∈as,Wf n a
  | .lam ps b=>ps.length<=4/\Wf n b
  | .app f as=>Wf n f/\as.length<=4/\∀a∈as,Wf n a
  | .case e _ alts o=>Wf n e/\alts.length<=4/\(∀p∈alts,Wf n p.2)/\(∀t,o=some t->Wf n t)
  | .letn bs b _=>bs.length<=2/\lC bs=true/\(bs.map (·.1)).Nodup/\(∀p∈bs,Wf n p.2)/\Wf n b
theorem Wf.up:∀{n:Nat} {t:ai},Wf n t->∀{m},n<=m->Wf m t
 |0,_,h,_,_=>h.elim
 |n+1,t,h,0,hm=>absurd hm (Nat.not_succ_le_zero n)
 |n+1,.var x,h,m+1,hm=>trivial
 |n+1,.lit i,h,m+1,hm=>trivial
 |n+1,.prim op as,h,m+1,hm=>⟨h.1,fun a ha=>Wf.up (h.2 a ha) (Nat.le_of_succ_le_succ hm)⟩
 |n+1,.con x as,h,m+1,hm=>⟨h.1,fun a ha=>Wf.up (h.2 a ha) (Nat.le_of_succ_le_succ hm)⟩
 |n+1,.lam ps b,h,m+1,hm=>⟨h.1,Wf.up h.2 (Nat.le_of_succ_le_succ hm)⟩
 |n+1,.app f as,h,m+1,hm=>⟨Wf.up h.1 (Nat.le_of_succ_le_succ hm),h.2.1,fun a ha=>Wf.up (h.2.2 a ha) (Nat.le_of_succ_le_succ hm)⟩
 |n+1,.case e x alts o,h,m+1,hm=>⟨Wf.up h.1 (Nat.le_of_succ_le_succ hm),h.2.1,fun p hp=>Wf.up (h.2.2.1 p hp) (Nat.le_of_succ_le_succ hm),fun t ht=>Wf.up (h.2.2.2 t ht) (Nat.le_of_succ_le_succ hm)⟩
 |n+1,.letn bs b r,h,m+1,hm=>⟨h.1,h.2.1,h.2.2.1,fun p hp=>Wf.up (h.2.2.2.1 p hp) (Nat.le_of_succ_le_succ hm),Wf.up h.2.2.2.2 (Nat.le_of_succ_le_succ hm)⟩
theorem Wf.lamBody{n:Nat}{ps:List Str}{b:ai}(h:Wf n (.lam ps b)):ps.length<=4/\Wf n b:=by
 induction n using dQ with
 |zero=>exact h.elim
 |succ m=>exact⟨h.1,Wf.up h.2 (Nat.le_succ m)⟩
def fV(ρ:hU):Prop:=ρ.length<=1000/\∀p∈ρ,p.2.flags.length<=4/\p.2.free=[]
noncomputable def bd:Nat->Nat
 |0=>0
 |n+1=>8*bd n+2
theorem qh{n:Nat}(h:n<=7):bd n<=1000000:=(by decide+kernel:∀n,n<=7->bd n<=1000000) n h
noncomputable def cu:Option Kv->Nat
 |none=>0
 |some k=>k.length
theorem lD(acc:Kv)(x:Str)(v:Value):(stored acc x v).length<=acc.length+1:=by
 unfold stored;split
 ·rw[List.length_map];lia
 ·simp
theorem fx(a b:Option Kv):cu (bq a b)<=cu a+cu b:=by
 induction a with
 |none=>exact Nat.zero_le _
 |some a=>induction b with
  |none=>exact Nat.zero_le _
  |some b=>exact merged_length_le a b
theorem gL(o:Option Kv)(xs:List Str):cu (a7 o xs)<=cu o:=by
 induction o with
 |none=>exact Nat.le_refl _
 |some k=>
  refine Nat.le_trans (fw _ _) ?_
  unfold ch;rw[List.length_map];exact Nat.le_refl _
theorem jI{B:Nat}:∀(os:List (Option Kv)) (f:Option Kv),(∀o∈os,cu o<=B)->cu f<=B->cu (os.foldl eO f)<=B:=by
 intro zz
 induction zz with
 |nil=>
  intro f _ h
  exact h
 |cons o r ih=>
  intro f ho h
  rw[List.foldl_cons]
  refine ih _ (fun x hx=>ho x (List.mem_cons_of_mem _ hx)) ?_
  have:=ho o List.mem_cons_self
  unfold eO
  induction o with
  |none=>exact h
  |some k=>induction f with
   |none=>exact this
   |some g=>
    refine Nat.le_trans (fw _ _) ?_
    unfold ch;rw[List.length_map];exact h
theorem np{nd:ai->Option Kv}{B:Nat}:∀(as:List ai) (f:Option Kv),(∀a∈as,cu (nd a)<=B)->cu (as.foldl (fun f a=>bq f (nd a)) f)<=cu f+as.length*B:=by
 intro zz
 induction zz with
 |nil=>
  intro f _
  simp
 |cons a r ih=>
  intro f h
  rw[List.foldl_cons,List.length_cons]
  have h1:=ih (bq f (nd a)) fun x hx=>h x (List.mem_cons_of_mem _ hx)
  have h2:=fx f (nd a)
  have h3:=h a List.mem_cons_self
  rw[Nat.succ_mul]
  exact gi h1 h2 h3
theorem qi{nd:ai->Option Kv}{B:Nat}:∀(as:List (Bool×ai)) (f:Option Kv),(∀a∈as,cu (nd a.2)<=B)->cu (as.foldl (fn nd) f)<=cu f+as.length*B:=by
 intro zz
 induction zz with
 |nil=>
  intro f _
  simp
 |cons a r ih=>
  intro f h
  rw[List.foldl_cons,List.length_cons]
  have h1:=ih (fn nd f a) fun x hx=>h x (List.mem_cons_of_mem _ hx)
  have h2:=fx f (nd a.2)
  have h3:=h a List.mem_cons_self
  have h4:cu (fn nd f a)<=cu f+B:=by unfold fn;split<;>lia
  rw[Nat.succ_mul]
  exact bC h1 h4
theorem nt{nd:ai->Option Kv}{B:Nat}{found:Kv}{known:Option Sg}{as:List ai}(ha:∀a∈as,cu (nd a)<=B)(hk:∀s,known=some s->s.flags.length<=4/\s.free.length<=B):cu (db nd found known as)<=found.length+B+4*B:=by
 unfold db
 induction known with
 |none=>show found.length<=_;lia
 |some s=>
  dsimp only
  refine ff (hk s rfl) fun h1 h2=>?_
  split
  ·show found.length<=_;lia
  ·split
   ·exact Nat.zero_le _
   ·refine Nat.le_trans (qi (B:=B) _ _ fun a h=>ha _ (List.of_mem_zip h).2) ?_
    have h3:=fx (some found) (some s.free)
    have h4:(s.flags.zip as).length<=4:=by rw[List.length_zip];lia
    have h5:(s.flags.zip as).length*B<=4*B:=Nat.mul_le_mul_right _ h4
    have h6:cu (some found)+cu (some s.free)=found.length+s.free.length:=rfl
    exact kI h3 h5 (Nat.le_of_eq h6) h2
theorem nu{nd:ai->Option Kv}{s:WB}{x:Str}{P:WB->Prop}(h0:P s)(h1:∀k t,s.needs=some k->s.waiting.lookup x=some t->P ⟨bq (some k) (nd t),s.waiting.filter (fun p=>decide (p.1≠x)),true⟩):P (aH nd s x):=by
 unfold aH
 induction hk:s.needs with
 |none=>exact h0
 |some k=>induction ht:s.waiting.lookup x with
  |none=>exact h0
  |some t=>
   by_cases hc:(k.lookup x).isSome=true
   ·dsimp only;rw[if_pos hc];exact h1 k t hk ht
   ·dsimp only;rw[if_neg hc];exact h0
theorem qj(nd:ai->Option Kv)(s:WB)(x:Str):(aH nd s x).waiting=s.waiting∨((aH nd s x).waiting.length<s.waiting.length/\∃t,(x,t)∈s.waiting/\(aH nd s x).needs=bq s.needs (nd t)):=by
 refine nu (P:=fun z=>z.waiting=s.waiting∨(z.waiting.length<s.waiting.length/\∃t,(x,t)∈s.waiting/\z.needs=bq s.needs (nd t))) (.inl rfl) fun k t hk ht=>?_
 right
 have hm:=mem_of_lookup ht
 refine⟨?_,t,hm,by rw[hk]⟩
 refine List.length_filter_lt_length_iff_exists.mpr ⟨_,hm,by simp⟩
structure kj(nd:ai->Option Kv)(B M:Nat)(s:WB):Prop where
 wait:∀p∈s.waiting,cu (nd p.2)<=B
 room:cu s.needs+s.waiting.length*B<=M
theorem kj.step{nd:ai->Option Kv}{B M:Nat}{s:WB}(h:kj nd B M s)(x:Str):kj nd B M (aH nd s x):=by
 refine nu h fun k t hk ht=>?_
 · ·have hm:=mem_of_lookup ht
    have h1:(s.waiting.filter fun p=>decide (p.1≠x)).length<s.waiting.length:=List.length_filter_lt_length_iff_exists.mpr ⟨_,hm,by simp⟩
    refine⟨fun p hp=>h.wait p ((List.mem_filter.mp hp).1),?_⟩
    have h2:=h.wait _ hm
    have h3:=fx (some k) (nd t)
    have h4:=h.room
    rw[hk]at h4
    have h5:(s.waiting.filter fun p=>decide (p.1≠x)).length*B+B<=s.waiting.length*B:=by
     have:=Nat.mul_le_mul_right B (Nat.succ_le_of_lt h1)
     rw[Nat.succ_mul]at this;exact this
    dsimp only at h2 ⊢
    exact kI h3 h2 h4 h5
theorem kj.fold{nd:ai->Option Kv}{B M:Nat}:∀(xs:List Str) {s:WB},kj nd B M s->kj nd B M (xs.foldl (aH nd) s)
 | [],_,h=>h
 |x::r,_,h=>kj.fold r (h.step x)
theorem lE{nd:ai->Option Kv}{B M:Nat}{xs:List Str}:∀(f:Nat) (o:Option Kv) (w:List (Str×ai)),kj nd B M ⟨o,w,false⟩->cu (bx nd xs f o w)<=M:=by
 intro f
 induction f with
 |zero=>exact fun o w h=>Nat.le_trans (Nat.le_add_right _ _) h.room
 |succ f ih=>
  intro o w h
  induction o with
  |none=>exact Nat.zero_le _
  |some k=>
   have h1:=h.fold xs
   show cu (if(xs.foldl (aH nd) ⟨some k,w,false⟩).more=true then bx nd xs f (xs.foldl (aH nd) ⟨some k,w,false⟩).needs (xs.foldl (aH nd) ⟨some k,w,false⟩).waiting else(xs.foldl (aH nd) ⟨some k,w,false⟩).needs)<=M
   split
   ·exact ih _ _ ⟨h1.wait,h1.room⟩
   ·exact Nat.le_trans (Nat.le_add_right _ _) h1.room
theorem qk{nd:ai->Option Kv}{x:Str}{alts:List (Int×ai)}{o:Option ai}{B:Nat}(h1:∀p∈alts,cu (nd p.2)<=B)(h2:∀t,o=some t->cu (nd t)<=B):∀q∈eQ nd x alts o,cu q<=B:=by
 intro q hq
 unfold eQ at hq
 rcases List.mem_append.mp hq with hq|hq
 ·refine be (List.mem_map.mp hq) fun p hp z2=>?_;subst z2
  exact Nat.le_trans (gL _ _) (h1 p hp)
 ·induction o with
  |none=>simp at hq
  |some t=>
   obtain rfl:=List.mem_singleton.mp hq
   exact Nat.le_trans (gL _ _) (h2 t rfl)
theorem cG{ρ:hU}(hρ:fV ρ):∀(n:Nat) (t:ai),Wf n t->cu (a8 n ρ t)<=bd n:=by
 intro zz
 induction zz with
 |zero=>
  intro t h
  exact h.elim
 |succ n ih=>
  intro t h
  have hb:bd (n+1)=8*bd n+2:=rfl
  rw[hb]
  induction t using ai.cs with
  |var x=>show 1<=_;lia
  |lit i=>exact Nat.zero_le _
  |lam ps b=>exact Nat.zero_le _
  |con x as=>exact Nat.zero_le _
  |prim op as=>
   show cu (if op==("error":Str)then none else qg (a8 n ρ) as)<=_
   split
   ·exact Nat.zero_le _
   ·have h1:=np as (some []) (B:=bd n) fun a ha=>ih a (h.2 a ha)
    have h2:as.length*bd n<=4*bd n:=Nat.mul_le_mul_right _ h.1
    have h3:cu (some ([]:Kv))=0:=rfl
    unfold qg
    exact gi h1 h2 (Nat.le_of_eq h3)
  |app f as=>
   have ha:∀a∈as,cu (a8 n ρ a)<=bd n:=fun a ha=>ih a (h.2.2 a ha)
   have other:cu (a8 n ρ f)<=8*bd n+2:=by have:=ih f h.1;exact bK this
   induction f using ai.cs with
   |var x=>
    show cu (db (a8 n ρ) [(x,kh)] (ρ.lookup x) as)<=_
    have:=nt (found:=[(x,kh)]) (known:=ρ.lookup x) ha fun s hs=>by
     have:=hρ.2 _ (mem_of_lookup hs)
     exact⟨this.1,by have e:=this.2;dsimp only at e;rw[e];exact Nat.zero_le _⟩
    have e:([(x,kh)]:Kv).length=1:=rfl
    exact bC this (Nat.le_of_eq e)
   |lam ps b=>
    show cu (db (a8 n ρ) [] (some (e8 (a8 n ρ) ps b)) as)<=_
    have hw:ps.length<=4/\cu (a8 n ρ b)<=bd n:=⟨h.1.lamBody.1,ih b h.1.lamBody.2⟩
    have:=nt (found:=[]) (known:=some (e8 (a8 n ρ) ps b)) ha fun s hs=>by
     obtain rfl:=Option.some.inj hs
     unfold e8
     induction hq:a8 n ρ b with
     |none=>dsimp only;exact⟨by unfold eN;simp;exact hw.1,Nat.zero_le _⟩
     |some k=>
      dsimp only
      refine⟨by simp;exact hw.1,Nat.le_trans (fw _ _) ?_⟩
      unfold ch;rw[List.length_map]
      have:=hw.2;rw[hq]at this;exact this
    have e:([]:Kv).length=0:=rfl
    exact bC this (Nat.le_of_eq e)
   |lit i=>exact other
   |prim op bs=>exact other
   |con x bs=>exact other
   |app g bs=>exact other
   |case e x alts o=>exact other
   |letn bs b r=>exact other
  |case e x alts o=>
   show cu (bq (a8 n ρ e) (cX (eQ (a8 n ρ) x alts o)))<=_
   have h1:=fx (a8 n ρ e) (cX (eQ (a8 n ρ) x alts o))
   have h2:=ih e h.1
   have h3:cu (cX (eQ (a8 n ρ) x alts o))<=bd n:=jI _ _ (qk (fun p hp=>ih p.2 (h.2.2.1 p hp)) fun t ht=>ih t (h.2.2.2 t ht)) (Nat.zero_le _)
   exact gi h1 h2 h3
  |letn bs b r=>
   show cu (a7 (bx (a8 n ρ) (bs.map (·.1)) (bs.length+1) (a8 n ρ b) bs) (bs.map (·.1)))<=_
   refine Nat.le_trans (gL _ _) ?_
   have h1:=ih b h.2.2.2.2
   have h2:bs.length*bd n<=2*bd n:=Nat.mul_le_mul_right _ h.1
   have:=lE (nd:=a8 n ρ) (B:=bd n) (M:=3*bd n) (xs:=bs.map (·.1)) (bs.length+1) (a8 n ρ b) bs ⟨fun p hp=>ih p.2 (h.2.2.2.1 p hp),by dsimp only;exact bC h1 h2⟩
   exact bK this
def jj(c:Cx)(n:Nat):Prop:=∀{V:St} {v ev:Value} {t:ai} {ρ:hU} {Q:Value->St->Prop},Rp n V v t->Wf n t->fO V ev ρ->fV ρ->
 (∀r V',Le [] V V'->iA V' r (a8 n ρ t)->Q r V')->ab c (10*n+5) (.ref 453) [v,ev] V Q
theorem cr{o:Option Kv}{a:Kv}{B:Nat}(h:cu o<=B)(e:o=some a):a.length<=B:=by rw[e]at h;exact h
section
variable{c:Cx}{d n:Nat}{env:Env}{l:au}{V:St}{p pos:Pos}{Q:Value->St->Prop}{QB:Bool->St->Prop}{QF:Fl->au->St->Prop}{QL:au->St->Prop}{ns:List (Str×NameKind)}
theorem mO(KT:HK c)(hn:n<=7)(ih:jj c n){v ev:Value}{op:Str}{as:List ai}{ρ:hU}(h1:Rp (n+1) V v (.prim op as))(hw:Wf (n+1) (.prim op as))(h2:fO V ev ρ)(hρ:fV ρ)
  (h:∀r V',Le [] V V'->iA V' r (if op==("error":Str)then none else qg (a8 n ρ) as)->Q r V'):ab c (10*n+6) (.ref 460) [v,ev] V Q:=by
 refine eC (x0:="expr") (x1:="env") KT ?_
 intro env K
 try dsimp only at K
 refine dl h1 fun a vs i1 i2 i3=>?_
 nofun
 refine ao i1 KT (cn _) (dO _) rfl rfl ?_
 nofun
 refine iH ?_
 nofun
 by_cases hop:(op==("error":Str))=true
 ·rw[if_pos hop]at h ⊢
  nofun
  exact h _ _ (.refl ..) rfl
 ·rw[if_neg hop]at h ⊢
  nofun
  intro a0 e0 V1 L1 ha0 ha1
  nofun
  refine ao (i1.mono L1.ro) KT (cn _) (cT _) rfl rfl ?_
  refine⟨_,ax (af (L1.ro _ _ i2)),?_⟩
  let F:I3:=fun i l' V' G=>Le [] V V'->Lk l' "env" ev->∀fv,Lk l' "found" fv->(iA V' fv ((as.take i).foldl (fun f a=>bq f (a8 n ρ a)) (some [])))->G
  refine cW vs F ?_ ?_ ?_ vs.length 0 (Nat.zero_add _) (by exact fun _ κ=>κ L1 (by rfl') _ (by rfl') ⟨a0,e0,rfl,ha1⟩)
  ·rintro i l' V' L - - - -
   exact aE (af (L.ro _ _ i2)) i
  ·rintro i x l' V' hx _ _ L hl fv hf hfd
   refine be (Paired.get i3 hx) fun t ht hxt=>?_
   have hwt:=hw.2 t (List.mem_of_getElem? ht)
   nofun
   refine ab.at (ih (hxt.mono L.ro) hwt (h2.mono L.ro) hρ fun r V2 L2 hr=>?_) (by lia)
   nofun
   have b1:=cG hρ n t hwt
   have b2:=np (nd:=a8 n ρ) (B:=bd n) (as.take i) (some []) fun a ha=>cG hρ n a (hw.2 a (List.mem_of_mem_take ha))
   have b3:(as.take i).length*bd n<=4*bd n:=Nat.mul_le_mul_right _ (by rw[List.length_take];have:=hw.1;lia)
   have b4:=qh hn
   have b5:cu (some ([]:Kv))=0:=rfl
   refine ab.at (jh KT (hfd.mono L2.ro) hr (fun a b ea eb=>by
    have c1:=cr (Nat.le_refl _) ea;have c2:=cr (Nat.le_refl _) eb
    rw[sizeLine_eq];exact fQ (Nat.add_le_add (Nat.le_trans c1 (Nat.le_trans b2 (Nat.add_le_add (Nat.le_of_eq b5) (Nat.le_trans b3 (Nat.mul_le_mul_left 4 b4))))) (Nat.le_trans c2 (Nat.le_trans b1 b4))) rfl) fun r' V3 L3 hr'=>?_) (by lia)
   nofun
   refine(fun _ κ=>κ ((L.trans L2).trans L3) (by rfl') _ (by rfl') (?_))
   rw[bw ht];exact hr'
  ·rintro l' V' L hl fv hf hfd
   rw[show as.take vs.length=as from List.take_of_length_le (by rw[i3.length];exact Nat.le_refl _)]at hfd
   nofun
   exact h _ _ L hfd
theorem gR(KT:HK c)(hn:n<=7)(ih:jj c n){v ev:Value}{ps:List Str}{b:ai}{ρ:hU}(h1:Rp (n+1) V v (.lam ps b))(hw:ps.length<=4/\Wf n b)(h2:fO V ev ρ)(hρ:fV ρ)
  (h:∀r V',Le [] V V'->tN V' r (e8 (a8 n ρ) ps b)->Q r V'):ab c (10*n+7) (.ref 479) [v,ev] V Q:=by
 refine ab.frz (eC (x0:="function") (x1:="env") KT ?_)
 intro env K
 try dsimp only at K
 refine dl h1 fun a bv i1 i2 i3=>?_
 nofun
 refine ao i1 KT (bP _) (cB _) rfl (by obtain⟨_,x,dx,e,_⟩:=i3.ia;rw[e];rfl) ?_
 nofun
 refine ab.at (ih i3 hw.2 h2 hρ fun r V1 L1 hr=>?_) (by lia)
 nofun
 refine iP hr.plain hr.none ?_
 nofun
 unfold e8 at h
 induction hq:a8 n ρ b with
 |none=>
  rw[hq]at h
  nofun
  refine ao (i1.mono L1.ro) KT (bP _) (bB _) rfl rfl ?_
  nofun
  refine cg (.inl (af (L1.ro _ _ i2))) (by rw[List.length_map];have:=hw.1;lia) ?_
  rw[List.length_map]
  nofun
  refine ab.at (lB (n:=ps.length) KT (by have:=hw.1;lia) fun r2 V2 L2 hr2=>?_) (by lia)
  nofun
  exact⟨[],h _ _ (L1.trans L2) hr2⟩
 |some k=>
  rw[hq]at h hr
  nofun
  refine fM hr fun ka ke z2 hk=>?_;subst z2
  nofun
  refine ao (i1.mono L1.ro) KT (bP _) (bB _) rfl rfl ?_
  refine⟨_,ax (af (L1.ro _ _ i2)),fun cenv CK=>?_⟩
  have hkz:k.length<=1000000:=Nat.le_trans (cr (cG hρ n b hw.2) hq) (qh hn)
  let F:I4:=fun i acc l' V' G=>V1=V'->Lk l' "needs" (.ref ka)->(acc= .l ((ps.take i).map fun x=> .bool (k.lookup x).isSome))->G
  refine aq (ps.map aJ) F ?_ ?_ ?_ ps.length 0 (by simp) (by exact fun _ k=>k rfl (by rfl') rfl)
  ·rintro i acc l' V' rfl - -
   exact aE (af (L1.ro _ _ i2)) i
  ·rintro i x acc l' V' hx R hR rfl hl rfl
   rw[List.getElem?_map,Option.map_eq_some_iff]at hx
   refine be hx fun y hy z2=>?_;subst z2
   unfold aJ
   nofun
   refine nb (af hk) ⟨?_,(hR _ _ _ _ fun _ k=>k rfl (dD (by kernel_rfl) hl) ?_)⟩
   ·rw[List.length_map,List.length_take,sizeLine_eq];have:=hw.1;lia
   ·rw[am hy,List.map_append];rfl
  ·rintro acc l' V' rfl -rfl
   intro fa hfa
   unfold Mine.gG
   have e:(List.take (List.length (ps.map aJ)) ps)=ps:=List.take_of_length_le (by simp)
   rw[e]
   have L2:=L1.new1 hfa (o:= .list (ps.map fun x=> .bool (k.lookup x).isSome))
   nofun
   refine ao (i1.mono L2.ro) KT (bP _) (bB _) rfl rfl ?_
   nofun
   have hkn:iA (V1.set fa (.list (ps.map fun x=> .bool (k.lookup x).isSome))) (.ref ka) (some k):=⟨ka,ke,rfl,(Le.new (M:=[]) hfa).ro _ _ hk⟩
   refine ab.at (gK KT hkn (af (L2.ro _ _ i2)) (fun q e=>by cases e;rw[sizeLine_eq];lia) fun r3 V3 L3 hr3=>?_) (by lia)
   refine fM hr3 fun fr fe z2 hfr=>?_;subst z2
   nofun
   refine ab.at (uL (d:=0) KT fun r4 V4 L4 hr4=>?_) (by lia)
   nofun
   refine⟨[fa],h _ _ (aR ((L2.trans L3).trans L4) (by simpa using L1.none0 hfa nn)) ⟨fa,fr,fe,hr4.mono (aD _ _),aN List.mem_cons_self (L4.at0 (L3.at0 ?_)) rfl,aD _ _ _ _ (L4.ro _ _ hfr)⟩⟩
   rw[aj,List.map_map];rfl
end
section
variable{c:Cx}{d n:Nat}{env:Env}{l:au}{V:St}{p pos:Pos}{Q:Value->St->Prop}{QB:Bool->St->Prop}{QF:Fl->au->St->Prop}{QL:au->St->Prop}{ns:List (Str×NameKind)}
theorem xr{st:Stmt}{r:List Stmt}(J:au->St->Prop)(h1:S c d env l st V fun f l1 V1=>match f with| .next=>J l1 V1|f=>QF f l1 V1)(h2:∀l1 V1,J l1 V1->SS c d env l1 r V1 QF):SS c d env l (st::r) V QF:=
 aG (h1.mono fun f l1 V1 q=>by
  induction f with
  |next=>exact h2 _ _ q
  |ret w=>exact q
  |other=>exact q)
theorem aC{st:Stmt}{r:List Stmt}(F:I2)(h1:∀R,sX (re F) R->S c d env l st V (Al R QF))(h2:∀l1 V1,F l1 V1 (SS c d env l1 r V1 QF)):SS c d env l (st::r) V QF:=
 xr (re F) (h1 (re F) fun _ _ q=>q) fun l1 V1 h=>h _ (h2 l1 V1)
theorem ql{v:Value}{C:Addr}{fs:List (Str×Value)}(h:IA V v C fs):handedIn v=true:=by obtain⟨x,dx,e,_⟩:=h;rw[e];rfl
theorem Rp.hand{v:Value}{t:ai}(h:Rp n V v t):handedIn v=true:=by obtain⟨_,q⟩:=h.ia;exact ql q
theorem Rp.plain{v:Value}{t:ai}(h:Rp n V v t):∀id,v≠ .builtin id:=by obtain⟨_,x,dx,e,_⟩:=h.ia;rw[e];exact fun id q=>by cases q
theorem Rp.notNone{v:Value}{t:ai}(h:Rp n V v t):(v== .none)=false:=by obtain⟨_,x,dx,e,_⟩:=h.ia;rw[e];rfl
theorem Rp.var_ia{v:Value}{x:Str}(h:Rp n V v (.var x)):IA V v 59 [("name",.str x 0)]:=by cases n with|zero=>exact h.elim|succ m=>exact h
theorem uZ{kvs:List (Str×Value)}{ρ:hU}(h:PySem.Paired (fun(p:Str×Value) (q:Str×Sg)=>p.1=q.1/\tN V p.2 q.2) kvs ρ)(x:Str):
  (kvs.lookup x=none/\ρ.lookup x=none)∨∃v s,kvs.lookup x=some v/\ρ.lookup x=some s/\tN V v s:=by
 induction h with
 |nil=>exact .inl ⟨rfl,rfl⟩
 |cons h1 hr ih=>
  rename_i a b l1 l2
  obtain⟨n1,v⟩:=a
  obtain⟨n2,s⟩:=b
  refine ff h1 fun e hs=>?_
  dsimp only at e hs
  subst e
  rw[List.lookup_cons,List.lookup_cons]
  by_cases hx:(x==n1)=true
  ·rw[hx];exact .inr ⟨v,s,rfl,rfl,hs⟩
  ·have hx':(x==n1)=false:=by simpa using hx
   rw[hx'];exact ih
def At(V:St)(v:Value):Option Sg->Prop
 |none=>v= .none
 |some s=>tN V v s
theorem At.plain{v:Value}{o:Option Sg}(h:At V v o):∀id,v≠ .builtin id:=by
 induction o with
 |none=>rw[show v= .none from h];exact fun id q=>by cases q
 |some s=>refine v7 h fun _ _ _ z3 _=>?_;obtain⟨x,dx,e,_⟩:=z3;rw[e];exact fun id q=>by cases q
theorem At.none{v:Value}{o:Option Sg}(h:At V v o):(v== .none)=o.isNone:=by
 induction o with
 |none=>rw[show v= .none from h];rfl
 |some s=>refine v7 h fun _ _ _ z3 _=>?_;obtain⟨x,dx,e,_⟩:=z3;rw[e];rfl
noncomputable def Au(n:Nat)(ρ:hU):ai->Option (Kv×Option Sg)
 | .var x=>some ([(x,kh)],ρ.lookup x)
 | .lam ps b=>some ([],some (e8 (a8 n ρ) ps b))
 |_=>none
noncomputable def xu(n:Nat)(ρ:hU)(f:ai)(as:List ai):Option Kv:=match Au n ρ f with
 |some (k,s)=>db (a8 n ρ) k s as
 |none=>a8 n ρ f
theorem u0(ρ:hU)(f:ai)(as:List ai):a8 (n+1) ρ (.app f as)=xu n ρ f as:=by induction f using ai.cs<;>rfl
theorem mP(KT:HK c)(hn:n<=7)(ih:jj c n){v ev:Value}{f:ai}{as:List ai}{ρ:hU}(h1:Rp (n+1) V v (.app f as))(hw:Wf (n+1) (.app f as))(h2:fO V ev ρ)(hρ:fV ρ)
  (h:∀r V',Le [] V V'->iA V' r (xu n ρ f as)->Q r V'):ab c (10*n+9) (.ref 467) [v,ev] V Q:=by
 refine eC (x0:="expr") (x1:="env") KT ?_
 intro env K
 try dsimp only at K
 refine ku h1 fun fv a vs i1 i2 i3 i4=>?_
 let F:I2:=fun l1 V1 G=>Le [] V V1->Lk l1 "expr" v->Lk l1 "env" ev->∀k s fdv kv,Au n ρ f=some (k,s)->Lk l1 "found" fdv->iA V1 fdv (some k)->Lk l1 "known" kv->At V1 kv s->G
 refine aC F ?_ ?_
 ·intro R hR
  nofun
  refine ao i1 KT (aS _) (aU _) rfl i2.hand ?_
  nofun
  refine d9 KT i2 rfl ?_
  nofun
  by_cases hv:(bh f==59)=true
  ·refine bu hv ?_
   induction f using ai.cs<;>first| (cases hv;done) |skip
   rename_i x
   have iv:=i2.var_ia
   refine nU h2 fun ea eep ekvs z3 e1 e2=>?_;subst z3
   nofun
   refine ao i1 KT (aS _) (aU _) rfl i2.hand ?_
   refine ao iv KT (dE _) (bT _) rfl rfl ?_
   nofun
   refine⟨x,rfl,fun b bep V1 L1 hb0 hb1=>?_⟩
   nofun
   refine k8 (af (L1.ro _ _ e1)) ⟨trivial,?_⟩
   nofun
   refine ao (i1.mono L1.ro) KT (aS _) (aU _) rfl i2.hand ?_
   refine ao (iv.mono L1.ro) KT (dE _) (bT _) rfl rfl ?_
   nofun
   refine uc (af (L1.ro _ _ e1)) ?_
   nofun
   refine(fun _ κ=>κ L1 (by rfl') (by rfl') _ _ _ _ rfl (by rfl') ⟨b,bep,rfl,hb1⟩ (by rfl') (?_))
   rcases uZ e2 x with⟨q1,q2⟩ | ⟨w,s,q1,q2,q3⟩
   ·rw[q1,q2];exact rfl
   ·rw[q1,q2];exact q3.mono L1.ro
  ·refine bz hv ?_
   nofun
   refine ao i1 KT (aS _) (aU _) rfl i2.hand ?_
   nofun
   refine d9 KT i2 rfl ?_
   nofun
   by_cases hl:(bh f==183)=true
   ·refine bu hl ?_
    induction f using ai.cs<;>first| (cases hl;done) |skip
    rename_i ps b
    have hwl:=hw.1.lamBody
    nofun
    intro b0 bep V1 L1 hb0 hb1
    nofun
    refine ao (i1.mono L1.ro) KT (aS _) (aU _) rfl i2.hand ?_
    nofun
    refine ab.at (gR KT hn ih ((i2.mono L1.ro).up (Nat.le_succ n)) hwl (h2.mono L1.ro) hρ fun r V2 L2 hr=>?_) (by lia)
    nofun
    exact(fun _ κ=>κ (L1.trans L2) (by rfl') (by rfl') _ _ _ _ rfl (by rfl') ⟨b0,bep,rfl,L2.ro _ _ hb1⟩ (by rfl') hr)
   ·refine bz hl ?_
    nofun
    refine ao i1 KT (aS _) (aU _) rfl i2.hand ?_
    nofun
    have hfk:Au n ρ f=none:=by induction f using ai.cs<;>first|rfl| (exact absurd rfl hv) | (exact absurd rfl hl)
    refine ab.at (ih i2 hw.1 h2 hρ fun r V2 L2 hr=>?_) (by lia)
    nofun
    refine h _ _ L2 ?_
    unfold xu;rw[hfk];exact hr
 ·rintro l1 V1 L1 le lv k s fdv kv hfk lf hf lk hk
  unfold xu at h
  rw[hfk]at h
  dsimp only at h
  have hks:k.length<=1/\∀q,s=some q->q.flags.length<=4/\q.free.length<=bd n:=by
   induction f using ai.cs with
   |var x=>
    cases hfk
    refine⟨Nat.le_refl _,fun q e=>?_⟩
    have:=hρ.2 _ (mem_of_lookup e)
    exact⟨this.1,by have e:=this.2;dsimp only at e;rw[e];exact Nat.zero_le _⟩
   |lam ps b=>
    cases hfk
    refine⟨Nat.zero_le _,fun q e=>?_⟩
    obtain rfl:=Option.some.inj e
    have hwl:=hw.1.lamBody
    unfold e8
    induction hq:a8 n ρ b with
    |none=>dsimp only;exact⟨by unfold eN;simp;exact hwl.1,Nat.zero_le _⟩
    |some k=>
     dsimp only
     refine⟨by simp;exact hwl.1,Nat.le_trans (fw _ _) ?_⟩
     unfold ch;rw[List.length_map]
     exact cr (cG hρ n b hwl.2) hq
   |lit i=>cases hfk
   |prim op bs=>cases hfk
   |con x bs=>cases hfk
   |app g bs=>cases hfk
   |case e x alts o=>cases hfk
   |letn bs b r=>cases hfk
  have hbd:=qh hn
  have ha:∀a∈as,cu (a8 n ρ a)<=bd n:=fun a ha=>cG hρ n a (hw.2.2 a ha)
  nofun
  refine iP hk.plain hk.none ?_
  nofun
  induction s with
  |none=>
   nofun
   exact h _ _ L1 hf
  |some s=>
   nofun
   refine nU hk fun fa fr fe g1 g2 g3=>?_
   refine ff (hks.2 s rfl) fun hfl hfr=>?_
   nofun
   refine ao (i1.mono L1.ro) KT (aS _) (bH _) rfl rfl ?_
   nofun
   refine cg (.inl (af (L1.ro _ _ i3))) (by rw[i4.length];have:=hw.2.1;lia) ?_
   nofun
   refine ao g1 KT (cD _) (cV _) rfl rfl ?_
   nofun
   refine cg (.inl (af g2)) (by rw[List.length_map];lia) ?_
   refine m7 ?_
   nofun
   rw[i4.length,List.length_map]
   unfold db at h
   dsimp only at h
   by_cases hlt:as.length<s.flags.length
   ·rw[if_pos hlt]at h
    refine bu (by simpa using hlt) ?_
    nofun
    exact h _ _ L1 hf
   ·rw[if_neg hlt]at h
    refine bz (by simpa using hlt) ?_
    nofun
    refine ao g1 KT (cD _) (dJ _) rfl rfl ?_
    nofun
    induction hdv:s.div with
    |true=>
     rw[hdv,if_pos rfl]at h
     nofun
     exact h _ _ L1 rfl
    |false=>
     rw[hdv,if_neg (by decide)]at h
     nofun
     refine ao g1 KT (cD _) (hJ _) rfl rfl ?_
     nofun
     have hfree:iA V1 (.ref fr) (some s.free):=⟨fr,fe,rfl,g3⟩
     refine ab.at (jh KT hf hfree (fun a b ea eb=>by cases ea;cases eb;rw[sizeLine_eq];have:=hks.1;exact gi hks.1 hfr hbd) fun r2 V2 L2 hr2=>?_) (by lia)
     have L12:=L1.trans L2
     nofun
     refine ao (g1.mono L2.ro) KT (cD _) (cV _) rfl rfl ?_
     nofun
     refine ao (i1.mono L12.ro) KT (aS _) (bH _) rfl rfl ?_
     refine⟨fa,a,_,_,rfl,rfl,af (L2.ro _ _ g2),af (L12.ro _ _ i3),?_⟩
     refine xm (s.flags.map .bool) vs (fun i l' V'=>Le [] V V'/\Le [] V1 V'/\Lk l' "env" ev/\∃fv,Lk l' "found" fv/\iA V' fv (((s.flags.zip as).take i).foldl (fn (a8 n ρ)) (bq (some k) (some s.free)))) rfl rfl ?_ ?_ ?_ (min (s.flags.map Value.bool).length vs.length) 0 (by simp) ⟨L12,L2,by rfl',_,by rfl',hr2⟩
     ·rintro i l' V' ⟨L,L',-⟩
      exact⟨af (L'.ro _ _ g2),af (L.ro _ _ i3)⟩
     ·rintro i x y l' V' hx hy ⟨L,L',hl,fv',hf',hfd⟩
      refine be (Paired.get i4 hy) fun t ht hyt=>?_
      rw[List.getElem?_map,Option.map_eq_some_iff]at hx
      refine be hx fun fl hfl' z2=>?_;subst z2
      have hwt:=hw.2.2 t (List.mem_of_getElem? ht)
      have hz:(s.flags.zip as)[i]? =some (fl,t):=by rw[List.getElem?_zip_eq_some];exact⟨hfl',ht⟩
      nofun
      rw[bw hz]
      induction fl with
      |false=>
       nofun
       exact⟨L,L',by rfl',_,by rfl',hfd⟩
      |true=>
       nofun
       refine ab.at (ih (hyt.mono L.ro) hwt (h2.mono L.ro) hρ fun r V3 L3 hr=>?_) (by lia)
       nofun
       have b1:=cG hρ n t hwt
       have b2:=qi (nd:=a8 n ρ) (B:=bd n) ((s.flags.zip as).take i) (bq (some k) (some s.free)) fun a ha'=>ha _ (List.of_mem_zip (List.mem_of_mem_take ha')).2
       have b3:((s.flags.zip as).take i).length*bd n<=4*bd n:=Nat.mul_le_mul_right _ (by rw[List.length_take,List.length_zip];exact jV (yc (hks.2 _ rfl).1))
       have b4:=fx (some k) (some s.free)
       have b5:cu (some k)+cu (some s.free)=k.length+s.free.length:=rfl
       refine ab.at (jh KT (hfd.mono L3.ro) hr (fun a b ea eb=>by
        have c1:=cr (Nat.le_refl _) ea;have c2:=cr (Nat.le_refl _) eb
        have:=hks.1
        rw[sizeLine_eq];exact fQ (Nat.add_le_add (Nat.le_trans c1 (Nat.le_trans b2 (Nat.add_le_add (Nat.le_trans b4 (Nat.le_trans (Nat.le_of_eq b5) (Nat.add_le_add hks.1 (Nat.le_trans hfr hbd)))) (Nat.le_trans b3 (Nat.mul_le_mul_left 4 hbd))))) (Nat.le_trans c2 (Nat.le_trans b1 hbd))) rfl) fun r' V4 L4 hr'=>?_) (by lia)
       nofun
       exact⟨(L.trans L3).trans L4,(L'.trans L3).trans L4,by rfl',_,by rfl',hr'⟩
     ·rintro i l' V' hi ⟨L,L',hl,fv',hf',hfd⟩
      rw[show(s.flags.zip as).take i=s.flags.zip as from List.take_of_length_le (by rw[hi,List.length_zip,List.length_map,i4.length];exact Nat.le_refl _)]at hfd
      nofun
      exact h _ _ L hfd
end
theorem Le.touch{M:List Addr}{V V':St}{a:Addr}{o o':cq}(L:Le M V V')(h0:V a=none)(h1:V' a=some o)(hn:o.isRo=false):Le M V (V'.set a o'):=by
 refine⟨fun b r e=>?_,fun b p hb e=>?_⟩
 ·have:=L.ro b r e
  have hne:b≠a:=by rintro rfl;rw[h0]at e;cases e
  rw[aA _ _ hne];exact this
 ·have hne:b≠a:=by rintro rfl;rw[h0]at e;cases e
  rw[aA _ _ hne];exact L.ext b p hb e
theorem cj{V:St}{a:Addr}{o o':cq}(h:V a=some o)(hn:o.isRo=false):Ro V (V.set a o'):=fun b r e=>by
 have hne:b≠a:=by rintro rfl;rw[h]at e;cases e;cases hn
 rw[aA _ _ hne];exact e
theorem Paired.snoc'{α β:Type}{R:α->β->Prop}{xs:List α}{ys:List β}{x:α}{y:β}(h:PySem.Paired R xs ys)(hr:R x y):PySem.Paired R (xs++ [x]) (ys++ [y]):=by
 induction h with
 |nil=>exact .cons hr .nil
 |cons a _ ih=>exact .cons a ih
section
variable{c:Cx}{d n:Nat}{env:Env}{l:au}{V:St}{p pos:Pos}{Q:Value->St->Prop}{QB:Bool->St->Prop}{QF:Fl->au->St->Prop}{QL:au->St->Prop}{ns:List (Str×NameKind)}
theorem mQ(KT:HK c)(hn:n<=7)(ih:jj c n){v ev:Value}{e:ai}{x:Str}{alts:List (Int×ai)}{o:Option ai}{ρ:hU}(h1:Rp (n+1) V v (.case e x alts o))(hw:Wf (n+1) (.case e x alts o))(h2:fO V ev ρ)(hρ:fV ρ)
  (h:∀r V',Le [] V V'->iA V' r (bq (a8 n ρ e) (cX (eQ (a8 n ρ) x alts o)))->Q r V'):ab c (10*n+6) (.ref 474) [v,ev] V Q:=by
 refine eC (x0:="expr") (x1:="env") KT ?_
 intro env K
 try dsimp only at K
 refine rO h1 fun xv a avs ov i1 i2 i3 i4 i5=>?_
 have hbd:=qh hn
 nofun
 refine⟨Nat.zero_le _,fun lo hlo=>?_⟩
 have L0:Le [] V (V.set lo (.list [])):= .new hlo
 nofun
 refine ao (i1.mono L0.ro) KT (aK _) (bZ _) rfl rfl ?_
 refine⟨_,ax (af (L0.ro _ _ i3)),?_⟩
 let F:I3:=fun i l' V' G=>Le [] V V'->Lk l' "expr" v->Lk l' "env" ev->Lk l' "lots" (.ref lo)->∀rs,V' lo=some (.list rs)->(PySem.Paired (iA V') rs ((alts.take i).map fun p=>a7 (a8 n ρ p.2) [x]))->G
 refine cW avs F ?_ ?_ ?_ avs.length 0 (Nat.zero_add _)
  (by exact fun _ k=>k L0 (by rfl') (by rfl') (by rfl') ([]) (aj ..) .nil)
 ·rintro i l' V' L - - - - - -
  exact aE (af (L.ro _ _ i3)) i
 ·rintro i y l' V' hy _ _ L eK fZ qH rs hrs hprs
  obtain⟨⟨ki,t⟩,ht,ka,na,bv,g1,g2,g3,g4⟩:=Paired.get i4 hy
  have hwt:=hw.2.2.1 _ (List.mem_of_getElem? ht)
  have hlen:rs.length<=4:=by rw[hprs.length,List.length_map,List.length_take];exact jV hw.2.1
  nofun
  refine dT hrs ⟨trivial,?_⟩
  nofun
  refine ao (g1.mono L.ro) KT (bV _) (du _) rfl g4.hand ?_
  nofun
  refine ab.at (ih (g4.mono L.ro) hwt (h2.mono L.ro) hρ fun r V2 L2 hr=>?_) (by lia)
  nofun
  have L02:=L.trans L2
  refine ao (g1.mono L02.ro) KT (bV _) (dY _) rfl rfl ?_
  nofun
  refine ug (.inl (af (L02.ro _ _ g3))) (by simp) fun z hz=>?_
  have L3:=L2.new1 hz (o:= .list [])
  nofun
  refine ao (i1.mono (L.trans L3).ro) KT (aK _) (dv _) rfl rfl ?_
  nofun
  refine⟨bW rfl,fun z2 hz2=>?_⟩
  have L4:=L3.new1 hz2 (o:= .list [.str x 0])
  have hzz:z≠z2:=Ne.symm (aO hz2 (aj ..))
  refine dW (vs:=[]) (ws:=[.str x 0]) (by unfold rd;rw[aA _ _ hzz,aj];rfl) (af (aj ..)) (by simp) fun z3 hz3=>?_
  have L5:=L4.new1 hz3 (o:= .list ([]++ [.str x 0]))
  nofun
  have Lr:Le [] V2 ((((V2.set z (.list [])).set z2 (.list [.str x 0])).set z3 (.list ([]++ [.str x 0])))):=((Le.refl [] V2).new1 hz).new1 hz2|>.new1 hz3
  refine ab.at (gK KT (xs:=[x]) (hr.mono Lr.ro) (af (aj ..)) (fun q eq=>by have:=cr (cG hρ n t hwt) eq;rw[sizeLine_eq];exact bC this hbd) fun r3 V3 L6 hr3=>?_) (by lia)
  have L':=L5.trans L6
  nofun
  have hrs3:=L'.at0 hrs
  refine dU hrs3 (sz (by lia)) ?_
  nofun
  refine(fun _ k=>k ((L.trans L').touch hlo hrs3 rfl) (by rfl') (by rfl') (by rfl') (rs++ [r3]) (aj ..) ?_)
  rw[am ht,List.map_append]
  exact Paired.snoc' (Paired.imp (fun _ _ q=>(q.mono L'.ro).mono (cj hrs3 rfl)) hprs) (hr3.mono (cj hrs3 rfl))
 ·rintro l' V' L eK fZ qH rs hrs hprs
  rw[show alts.take avs.length=alts from List.take_of_length_le (by rw[i4.length];exact Nat.le_refl _)]at hprs
  let F:I2:=fun l1 V1 G=>Le [] V V1->Lk l1 "expr" v->Lk l1 "env" ev->Lk l1 "lots" (.ref lo)->∀rs,V1 lo=some (.list rs)->PySem.Paired (iA V1) rs (eQ (a8 n ρ) x alts o)->G
  refine aC F ?_ ?_
  ·intro _ _
   nofun
   refine ao (i1.mono L.ro) KT (aK _) (bg _) rfl (by cases o with|none=>rw[show ov= .none from i5];rfl|some t=>exact Rp.hand (n:=n) i5) ?_
   nofun
   refine n9 (by cases o with|none=>(rw[show ov= .none from i5];exact fun id q=>by cases q) |some t=>exact Rp.plain (n:=n) i5) ?_
   nofun
   induction o with
   |none=>
    rw[show ov= .none from i5,if_neg (by decide)]
    nofun
    exact(fun _ k=>k L eK fZ qH rs hrs (by unfold eQ;rw[List.append_nil];exact hprs))
   |some t=>
    have g4:Rp n V ov t:=i5
    have hwt:=hw.2.2.2 t rfl
    rw[g4.notNone,if_pos (by decide)]
    nofun
    refine dT hrs ⟨trivial,?_⟩
    nofun
    refine ao (i1.mono L.ro) KT (aK _) (bg _) rfl g4.hand ?_
    nofun
    refine ab.at (ih (g4.mono L.ro) hwt (h2.mono L.ro) hρ fun r V2 L2 hr=>?_) (by lia)
    nofun
    refine ao (i1.mono (L.trans L2).ro) KT (aK _) (dv _) rfl rfl ?_
    nofun
    refine⟨bW rfl,fun z2 hz2=>?_⟩
    have L4:=L2.new1 hz2 (o:= .list [.str x 0])
    nofun
    refine ab.at (gK KT (xs:=[x]) (hr.mono (Le.new (M:=[]) hz2).ro) (af (aj ..)) (fun q eq=>by have:=cr (cG hρ n t hwt) eq;rw[sizeLine_eq];exact bC this hbd) fun r3 V3 L6 hr3=>?_) (by lia)
    have L':=L4.trans L6
    nofun
    have hrs3:=L'.at0 hrs
    refine dU hrs3 (by have e:=hprs.length;rw[List.length_map]at e;exact sz (mu e (fQ hw.2.1 rfl))) ?_
    nofun
    refine(fun _ k=>k ((L.trans L').touch hlo hrs3 rfl) (by rfl') (by rfl') (by rfl') (rs++ [r3]) (aj ..) (?_))
    unfold eQ
    exact Paired.snoc' (Paired.imp (fun _ _ q=>(q.mono L'.ro).mono (cj hrs3 rfl)) hprs) (hr3.mono (cj hrs3 rfl))
  ·rintro l1 V1 L1 eK fZ qH rs hrs hprs
   nofun
   refine ao (i1.mono L1.ro) KT (aK _) (cC _) rfl i2.hand ?_
   nofun
   refine ab.at (ih (i2.mono L1.ro) hw.1 (h2.mono L1.ro) hρ fun r V2 L2 hr=>?_) (by lia)
   nofun
   have hlots:=qk (x:=x) (B:=bd n) (fun p hp=>cG hρ n p.2 (hw.2.2.1 p hp)) (fun t ht=>cG hρ n t (hw.2.2.2 t ht))
   refine ab.at (tc KT (af (L2.at0 hrs)) (Paired.imp (fun _ _ q=>q.mono L2.ro) hprs) (fun k hk=>by have:=hlots _ hk;have:k.length<=bd n:=this;rw[sizeLine_eq];exact bC this hbd) ⟨_,L2.at0 hrs⟩
    (fun i k hk=>by have:=cr (jI (B:=bd n) _ none (fun o ho=>hlots o (List.mem_of_mem_take ho)) (Nat.zero_le _)) hk;rw[sizeLine_eq];exact bC this hbd) fun r3 V3 L3 hr3=>?_) (by lia)
   nofun
   have b1:=cG hρ n e hw.1
   have b2:cu (cX (eQ (a8 n ρ) x alts o))<=bd n:=jI _ _ hlots (Nat.zero_le _)
   refine ab.at (jh KT (hr.mono L3.ro) hr3 (fun a b ea eb=>by have:=cr b1 ea;have:=cr b2 eb;rw[sizeLine_eq];exact kI this hbd this hbd) fun r4 V4 L4 hr4=>?_) (by lia)
   nofun
   exact h _ _ (((L1.trans L2).trans L3).trans L4) hr4
end
def vY(n:Nat)(V:St)(p:Str×Value)(q:Str×ai):Prop:=p.1=q.1/\Rp n V p.2 q.2
theorem vY.mono{n:Nat}{V V':St}{p:Str×Value}{q:Str×ai}(h:vY n V p q)(L:Ro V V'):vY n V' p q:=⟨h.1,h.2.mono L⟩
theorem Cb{n:Nat}{V:St}{wk:Kv}{wt:List (Str×ai)}(h:PySem.Paired (vY n V) wk wt)(x:Str):(wk.lookup x=none/\wt.lookup x=none)∨∃v t,wk.lookup x=some v/\wt.lookup x=some t/\Rp n V v t:=by
 induction h with
 |nil=>exact .inl ⟨rfl,rfl⟩
 |cons h1 hr ih=>
  rename_i a b l1 l2
  obtain⟨n1,v⟩:=a
  obtain⟨n2,s⟩:=b
  refine ff h1 fun e hs=>?_
  dsimp only at e hs
  subst e
  rw[List.lookup_cons,List.lookup_cons]
  by_cases hx:(x==n1)=true
  ·rw[hx];exact .inr ⟨v,s,rfl,rfl,hs⟩
  ·have hx':(x==n1)=false:=by simpa using hx
   rw[hx'];exact ih
theorem rp{n:Nat}{V:St}{wk:Kv}{wt:List (Str×ai)}(h:PySem.Paired (vY n V) wk wt)(x:Str):PySem.Paired (vY n V) (without wk x) (wt.filter fun p=>decide (p.1≠x)):=by
 unfold without
 induction h with
 |nil=>exact .nil
 |cons h1 hr ih=>
  rename_i a b l1 l2
  rw[List.filter_cons,List.filter_cons]
  have e:=h1.1
  rw[e]
  split
  ·exact .cons h1 ih
  ·exact ih
noncomputable def nv(b:Str×Value×ai):Str×Value:=(b.1,b.2.1)
theorem jk{n:Nat}{V:St}{pvs:List Value}{ts:List (Str×Value×ai)}(h:PySem.Paired (vX n V) pvs ts):PySem.Paired (fun v (p:Str×Value)=>∃q,v= .ref q/\rd V q=some (.tup [.str p.1 0,p.2])) pvs (ts.map nv):=by
 induction h with
 |nil=>exact .nil
 |cons h1 _ ih=>refine iz h1 fun q e g _=>?_;exact .cons ⟨q,e,af g⟩ ih
theorem u6{n:Nat}{V:St}{pvs:List Value}{ts:List (Str×Value×ai)}(h:PySem.Paired (vX n V) pvs ts):PySem.Paired (vY n V) (ts.map nv) (ts.map eP):=by
 induction h with
 |nil=>exact .nil
 |cons h1 _ ih=>refine iz h1 fun q e g g2=>?_;exact .cons ⟨rfl,g2⟩ ih
section
variable{c:Cx}{d n:Nat}{env:Env}{l:au}{V:St}{p pos:Pos}{Q:Value->St->Prop}{QB:Bool->St->Prop}{QF:Fl->au->St->Prop}{QL:au->St->Prop}{ns:List (Str×NameKind)}
theorem td{t:Expr}{body:List Stmt}(I:Nat->au->St->Prop)
  (step:∀k l V,I k l V->T c d env l t V fun b V1=>if b=true then SS c d env l body V1 (fun f l1 V2=>match f with| .next=>∃j,j<k/\I j l1 V2| .ret v=>QF (.ret v) l1 V2| .other=>False)else QF .next l V1):
  ∀(k:Nat) (l:au) (V:St),I k l V->gc c d env t body l V QF:=fun k=>by
 induction k using Nat.strongRecOn with
 |_ k ih=>
  intro l V h
  refine gF ((step k l V h).mono fun b V1 q=>?_)
  induction b with
  |false=>simpa using q
  |true=>
   rw[if_pos rfl]at q ⊢
   refine q.mono fun f l1 V2 q=>?_
   induction f with
   |next=>refine be q fun j hj hI=>?_;exact ih j hj l1 V2 hI
   |ret w=>exact q
   |other=>exact q
theorem lF{t:Expr}{body:List Stmt}(F:I3)
  (step:∀k l V R,sX (fun l V=>∃j,j<k/\rf F j l V) R->F k l V (T c d env l t V (kW c d env l body (ni R QF) QF))) (k:Nat) (l:au) (V:St) (h:rf F k l V):gc c d env t body l V QF:=
 td (rf F) (fun k l V h=>h _ (step k l V _ fun _ _ q=>q)) k l V h
theorem mR(KT:HK c)(hn:n<=7)(ih:jj c n){nv0 v ev ov:Value}{o:Option Kv}{bs:List (Str×ai)}{b:ai}{r:Bool}{ρ:hU}(h0:iA V nv0 o)(h1:Rp (n+1) V v (.letn bs b r))(hw:Wf (n+1) (.letn bs b r))
  (h2:fO V ev ρ) (h3:fO V ov ρ) (hρ:fV ρ) (hz:cu o<=bd n)
  (h:∀r V',Le [] V V'->iA V' r (a7 (bx (a8 n ρ) (bs.map (·.1)) (bs.length+1) o bs) (bs.map (·.1)))->Q r V'):ab c (10*n+7) (.ref 499) [nv0,v,ev,ov] V Q:=by
 refine BU (x0:="needs") (x1:="expr") (x2:="inner") (x3:="outer") KT ?_
 intro env K
 try dsimp only at K
 refine ku h1 fun a pvs bv i1 i2 i3 i4=>?_
 refine be (no i3) fun ts hts hpt=>?_
 have hbd:=qh hn
 have hlen:ts.length<=2:=by have:=hw.1;rw[←hts,List.length_map]at this;exact this
 have hnd:((ts.map nv).map (·.1)).Nodup:=by
  have:=hw.2.2.1
  rw[←hts,List.map_map]at this
  rw[List.map_map];exact this
 have hnames:bs.map (·.1)=ts.map (·.1):=by rw[←hts,List.map_map];rfl
 let F:I2:=fun l1 V1 G=>V=V1->∀en,Lk l1 "needs" nv0->Lk l1 "expr" v->Lk l1 "env" en->fO V en ρ->G
 refine aC F ?_ ?_
 ·intro _ _
  nofun
  refine ao i1 KT (aM _) (bp _) rfl rfl ?_
  nofun
  induction r with
  |true=>
   nofun
   exact(fun _ k=>k rfl _ (by rfl') (by rfl') (by rfl') h2)
  |false=>
   nofun
   exact(fun _ k=>k rfl _ (by rfl') (by rfl') (by rfl') h3)
 rintro l1 V1 rfl en ln lx lenv henv
 let F:I2:=fun l2 V2 G=>Le [] V V2->Lk l2 "needs" nv0->Lk l2 "env" en->∀w wep kn,V w=none->Lk l2 "waiting" (.ref w)->V2 w=some (.dict (ts.map nv) wep)->Lk l2 "known" (.ref kn)->V kn=none->(V2 kn=some (.list (ts.map fun b=>aJ b.1)))->G
 refine aC F ?_ ?_
 ·intro _ _
  nofun
  refine ao i1 KT (aM _) (bf _) rfl rfl ?_
  nofun
  refine jg (af i2) (jk hpt) (by rw[List.length_map];lia) fun w wep hw0=>?_
  rw[merged_nil_of_nodup _ hnd]
  have L1:Le [] V (V.set w (.dict (ts.map nv) wep)):= .new hw0
  nofun
  refine ao (i1.mono L1.ro) KT (aM _) (bf _) rfl rfl ?_
  refine⟨_,ax (af (L1.ro _ _ i2)),fun cenv CK=>?_⟩
  let F:I4:=fun i acc l' V' G=>V'=V.set w (.dict (ts.map nv) wep)->(acc= .l ((ts.take i).map fun b=>aJ b.1))->G
  refine aq pvs F ?_ ?_ ?_ pvs.length 0 (Nat.zero_add _) (by exact fun _ k=>k rfl rfl)
  ·rintro i acc l' V' rfl -
   exact aE (af (L1.ro _ _ i2)) i
  ·rintro i x acc l' V' hx R hR rfl rfl
   refine be (Paired.get hpt hx) fun z0 ht hb=>?_;obtain⟨y,tv,t⟩:=z0
   refine iz (hb.mono L1.ro) fun q z1 g1 g2=>?_;subst z1
   dsimp only at g1 g2
   refine dp (af g1) rfl rfl ?_
   nofun
   refine⟨by rw[List.length_map,List.length_take];exact sz (by lia),(hR _ _ _ _ fun _ k=>k rfl ?_)⟩
   rw[am ht,List.map_append];rfl
  ·rintro acc l' V' rfl rfl
   intro kn hkn
   unfold Mine.gG
   rw[show ts.take pvs.length=ts from List.take_of_length_le (by rw[hpt.length];exact Nat.le_refl _)]
   nofun
   have hwk:w≠kn:=Ne.symm (aO hkn (aj ..))
   exact(fun _ k=>k (L1.new1 hkn) (by rfl') (by rfl') w wep kn hw0 (by rfl') (by rw[aA _ _ hwk,aj]) (by rfl') (L1.none0 hkn nn) (aj ..))
 rintro l2 V2 L2 ln2 le2 w wep kn hw0 lw2 hw2 lk2 hkn0 hkn2
 nofun
 have hwkn:w≠kn:=by rintro rfl;rw[hw2]at hkn2;cases hkn2
 have hokI:kj (a8 n ρ) (bd n) (3*bd n) ⟨o,bs,false⟩:=⟨fun p hp=>cG hρ n p.2 (hw.2.2.2.1 p hp),by
  have:=Nat.mul_le_mul_right (bd n) hw.1
  dsimp only;exact bC hz this⟩
 have hnl:∀(i:Nat),((bs.map (·.1)).map aJ)[i]? =(ts.map fun b=>aJ b.1)[i]? :=fun i=>by rw[hnames,List.map_map];rfl
 have hkl:ts.map (fun b=>aJ b.1)=(bs.map (·.1)).map aJ:=by rw[hnames,List.map_map];rfl
 rw[hkl]at hkn2
 refine S.mono (QF:=fun f l3 V3=>f= .next/\∃nv3,Le [] V V3/\Lk l3 "needs" nv3/\Lk l3 "known" (.ref kn)/\V3 kn=some (.list ((bs.map (·.1)).map aJ))/\iA V3 nv3 (bx (a8 n ρ) (bs.map (·.1)) (bs.length+1) o bs)) ?_ ?_
 rotate_left
 ·rintro f l3 V3 ⟨rfl,nv3,L3,g1,g2,g3,g4⟩
  have hz3:=lE (xs:=bs.map (·.1)) (bs.length+1) _ _ hokI
  nofun
  refine ab.at (gK KT g4 (af g3) (fun a ea=>by have:=cr hz3 ea;rw[sizeLine_eq];exact kI this hbd hbd hbd) fun r3 V4 L4 hr3=>?_) (by lia)
  nofun
  exact h _ _ (L3.trans L4) hr3
 refine iZ ?_
 let F:I3:=fun k l' V' G=>∀o' wt m f nvl wk wep,k=(if m=true then wt.length+1 else 0)->(m=true->wt.length<f)->(if m=true then bx (a8 n ρ) (bs.map (·.1)) f o' wt else o')=bx (a8 n ρ) (bs.map (·.1)) (bs.length+1) o bs->kj (a8 n ρ) (bd n) (3*bd n) ⟨o',wt,false⟩->(∀p∈wt,Wf n p.2)->wt.length<=2->Le [] V V'->iA V' nvl o'->Lk l' "needs" nvl->Lk l' "env" en->Lk l' "waiting" (.ref w)->Lk l' "known" (.ref kn)->Lk l' "is_more" (.bool m)->V' w=some (.dict wk wep)->PySem.Paired (vY n V') wk wt->V' kn=some (.list ((bs.map (·.1)).map aJ))->G
 refine lF F ?_ (bs.length+1) _ _
  (by exact fun _ k=>k o bs true (bs.length+1) nv0 (ts.map nv) wep rfl (fun _=>Nat.lt_succ_self _) rfl hokI hw.2.2.2.1 hw.1 L2 (h0.mono L2.ro) (by rfl') (by rfl') (by rfl') (by rfl') (by rfl') hw2 (by rw[←hts];exact u6 (Paired.imp (fun _ _ q=>q.mono L2.ro) hpt)) hkn2)
 rintro k l' V' _ _ o' wt m f nvl wk wep' hk hf hR hok hwf hwl L hnd' lneed lenv' lwait lknown lmore hwd hwp hknd
 nofun
 refine ip hnd'.plain hnd'.none ?_
 nofun
 have hzo:cu o'<=3*bd n:=by have:=hok.room;dsimp only at this;exact bK this
 induction o' with
 |none=>
  nofun
  refine⟨by first|rfl|trivial,nvl,L,lneed,lknown,hknd,?_⟩
  rw[←hR]
  suffices e:(if m=true then bx (a8 n ρ) (bs.map (·.1)) f none wt else none)=none by rw[e];exact hnd'
  induction m with
  |false=>rfl
  |true=>
   nofun
   induction f using dQ with
   |zero=>have:=hf rfl;lia
   |succ f=>rfl
 |some k0=>
  nofun
  induction m with
  |false=>
   nofun
   refine⟨by first|rfl|trivial,nvl,L,lneed,lknown,hknd,?_⟩
   rw[←hR,if_neg (by decide)];exact hnd'
  |true=>
   nofun
   rw[if_pos rfl]at hR hk
   obtain⟨f,rfl⟩:∃f',f=f'+1:=⟨f -1,(Nat.sub_add_cancel (Nat.lt_of_le_of_lt (Nat.zero_le _) (hf rfl))).symm⟩
   have hR':(if((bs.map (·.1)).foldl (aH (a8 n ρ)) ⟨some k0,wt,false⟩).more=true then bx (a8 n ρ) (bs.map (·.1)) f ((bs.map (·.1)).foldl (aH (a8 n ρ)) ⟨some k0,wt,false⟩).needs ((bs.map (·.1)).foldl (aH (a8 n ρ)) ⟨some k0,wt,false⟩).waiting else((bs.map (·.1)).foldl (aH (a8 n ρ)) ⟨some k0,wt,false⟩).needs)=bx (a8 n ρ) (bs.map (·.1)) (bs.length+1) o bs:=hR
   refine⟨_,ax (af hknd),?_⟩
   let F:I3:=fun i l3 V3 G=>∀s nv3 wk3 we3,s=((bs.map (·.1)).take i).foldl (aH (a8 n ρ)) ⟨some k0,wt,false⟩->kj (a8 n ρ) (bd n) (3*bd n) s->(∀p∈s.waiting,p∈wt)->s.waiting.length<=wt.length->(s.more=true->s.waiting.length<wt.length)->Le [] V V3->iA V3 nv3 s.needs->Lk l3 "needs" nv3->Lk l3 "env" en->Lk l3 "waiting" (.ref w)->Lk l3 "known" (.ref kn)->Lk l3 "is_more" (.bool s.more)->V3 w=some (.dict wk3 we3)->PySem.Paired (vY n V3) wk3 s.waiting->V3 kn=some (.list ((bs.map (·.1)).map aJ))->G
   refine cW ((bs.map (·.1)).map aJ) F ?_ ?_ ?_ _ 0 (by simp;rfl)
    (by exact fun _ k=>k ⟨some k0,wt,false⟩ nvl wk wep' rfl ⟨hok.wait,hok.room⟩ (fun p hp=>hp) (Nat.le_refl _) (fun q=>by cases q) L hnd' (by rfl') (by rfl') (by rfl') (by rfl') (by rfl') hwd hwp hknd)
   ·rintro i l3 V3 s nv3 wk3 we3 - - - - - - - - - - - - - -hkn3
    exact aE (af hkn3) i
   ·rintro i x l3 V3 hx _ _ s nv3 wk3 we3 hs hsok hsw hsl hsm L3 hn3 l31 l32 l33 l34 l35 hw3 hp3 hkn3
    rw[List.getElem?_map,Option.map_eq_some_iff]at hx
    refine be hx fun y hy z2=>?_;subst z2
    have hst:((bs.map (·.1)).take (i+1)).foldl (aH (a8 n ρ)) ⟨some k0,wt,false⟩=aH (a8 n ρ) s y:=by rw[bw hy,hs]
    have stay:aH (a8 n ρ) s y=s->(∀G:Prop,(∀s' nv3 wk3 we3,s'=((bs.map (·.1)).take (i+1)).foldl (aH (a8 n ρ)) ⟨some k0,wt,false⟩->kj (a8 n ρ) (bd n) (3*bd n) s'->(∀p∈s'.waiting,p∈wt)->s'.waiting.length<=wt.length->(s'.more=true->s'.waiting.length<wt.length)->Le [] V V3->iA V3 nv3 s'.needs->Lk (eW l3 "name" (.str y 0)) "needs" nv3->Lk (eW l3 "name" (.str y 0)) "env" en->Lk (eW l3 "name" (.str y 0)) "waiting" (.ref w)->Lk (eW l3 "name" (.str y 0)) "known" (.ref kn)->Lk (eW l3 "name" (.str y 0)) "is_more" (.bool s'.more)->V3 w=some (.dict wk3 we3)->PySem.Paired (vY n V3) wk3 s'.waiting->V3 kn=some (.list ((bs.map (·.1)).map aJ))->G)->G):=fun e=>
     fun _ k=>k s nv3 wk3 we3 (by rw[hst,e]) hsok hsw hsl hsm L3 hn3 (by rfl') (by rfl') (by rfl') (by rfl') (by rfl') hw3 hp3 hkn3
    unfold aJ
    nofun
    refine nb (af hw3) ?_
    nofun
    rcases Cb hp3 y with⟨q1,q2⟩ | ⟨tv,t,q1,q2,q3⟩
    ·rw[q1]
     nofun
     exact stay (by unfold aH;rw[q2];cases s.needs<;>rfl)
    ·rw[q1]
     nofun
     refine ip hn3.plain hn3.none ?_
     nofun
     induction hsn:s.needs with
     |none=>
      nofun
      exact stay (by unfold aH;rw[hsn])
     |some k1=>
      rw[hsn]at hn3
      refine fM hn3 fun na ne z2 hna=>?_;subst z2
      nofun
      refine nb (af hna) ?_
      nofun
      by_cases hc:(k1.lookup y).isSome=true
      ·refine bu hc ?_
       nofun
       have hyes:aH (a8 n ρ) s y=⟨bq (some k1) (a8 n ρ t),s.waiting.filter (fun p=>decide (p.1≠y)),true⟩:=by
        unfold aH;rw[hsn,q2];dsimp only;rw[if_pos hc]
       have hmem:=hsw _ (mem_of_lookup q2)
       have hlt:=(qj (a8 n ρ) s y)
       rw[hyes]at hlt
       have hfl:(s.waiting.filter fun p=>decide (p.1≠y)).length<s.waiting.length:=List.length_filter_lt_length_iff_exists.mpr ⟨_,mem_of_lookup q2,by simp⟩
       have hwk3:wk3.length<=sizeLine:=by rw[hp3.length,sizeLine_eq];exact bC hsl hwl
       refine yV (af hw3) ⟨trivial,?_⟩
       nofun
       refine yW hw3 q1 hwk3 fun we4=>?_
       have L4:=L3.touch hw0 hw3 rfl (o':= .dict (without wk3 y) we4)
       have R4:Ro V3 (V3.set w (.dict (without wk3 y) we4)):=cj hw3 rfl
       nofun
       have hwt:=hwf _ hmem
       refine ab.at (ih (q3.mono R4) hwt (henv.mono L4.ro) hρ fun r5 V5 L5 hr5=>?_) (by lia)
       nofun
       have hna5:iA V5 (.ref na) (some k1):=⟨na,ne,rfl,L5.ro _ _ (R4 _ _ hna)⟩
       have b1:=cG hρ n t hwt
       have b2:k1.length<=3*bd n:=by have:=hsok.room;rw[hsn]at this;have e:cu (some k1)=k1.length:=rfl;exact bC (Nat.le_of_eq e.symm) this
       refine ab.at (jh KT hna5 hr5 (fun a b ea eb=>by cases ea;have:=cr b1 eb;rw[sizeLine_eq];lia) fun r6 V6 L6 hr6=>?_) (by lia)
       nofun
       have hkn4:(V3.set w (.dict (without wk3 y) we4)) kn=some (.list ((bs.map (·.1)).map aJ)):=by rw[aA _ _ (Ne.symm hwkn)];exact hkn3
       have L56:=L5.trans L6
       refine(fun _ k=>k ⟨bq (some k1) (a8 n ρ t),s.waiting.filter (fun p=>decide (p.1≠y)),true⟩ r6 (without wk3 y) we4 (by rw[hst,hyes]) ?_ (fun p hp=>hsw p (List.mem_filter.mp hp).1) (by dsimp only;exact bC hfl hsl) (fun _=>by dsimp only;lia) (L4.trans L56) hr6 (by rfl') (by rfl') (by rfl') (by rfl') (by rfl') (L56.at0 (aj ..)) (Paired.imp (fun _ _ q=>(q.mono R4).mono L56.ro) (rp hp3 y)) (L56.at0 hkn4))
       have:=hsok.step y
       rw[hyes]at this;exact this
      ·refine bz hc ?_
       nofun
       exact stay (by unfold aH;rw[hsn,q2];dsimp only;rw[if_neg hc])
   ·rintro l3 V3 s nv3 wk3 we3 hs hsok hsw hsl hsm L3 hn3 l31 l32 l33 l34 l35 hw3 hp3 hkn3
    rw[show(bs.map (·.1)).take ((bs.map (·.1)).map aJ).length=bs.map (·.1)from List.take_of_length_le (by simp)]at hs
    rw[←hs]at hR'
    nofun
    refine⟨if s.more=true then s.waiting.length+1 else 0,?_,(fun _ k=>k s.needs s.waiting s.more f nv3 wk3 we3 rfl ?_ hR' ⟨hsok.wait,hsok.room⟩ (fun p hp=>hwf p (hsw p hp)) (by lia) L3 hn3 l31 l32 l33 l34 l35 hw3 hp3 hkn3)⟩
    ·induction hm:s.more with
     |true=>have:=hsm hm;rw[if_pos rfl];exact bC this (Nat.le_of_eq hk.symm)
     |false=>rw[if_neg (by decide)];exact bK (Nat.le_of_eq hk.symm)
    ·intro hm;have:=hsm hm;have:=hf rfl;lia
end
section
variable{c:Cx}{d n:Nat}{env:Env}{l:au}{V:St}{p pos:Pos}{Q:Value->St->Prop}{QB:Bool->St->Prop}{QF:Fl->au->St->Prop}{QL:au->St->Prop}{ns:List (Str×NameKind)}
theorem oZ(KT:HK c)(hn:n<=7)(ih:jj c n){v ev:Value}{bs:List (Str×ai)}{b:ai}{r:Bool}{ρ:hU}(h1:Rp (n+1) V v (.letn bs b r))(hw:Wf (n+1) (.letn bs b r))(h2:fO V ev ρ)(hρ:fV ρ)
  (h:∀r' V',Le [] V V'->iA V' r' (a8 (n+1) ρ (.letn bs b r))->Q r' V'):ab c (10*n+9) (.ref 506) [v,ev] V Q:=by
 refine eC (x0:="expr") (x1:="env") KT ?_
 intro env K
 try dsimp only at K
 have h1':=h1
 refine ku h1' fun a pvs bv i1 i2 i3 i4=>?_
 nofun
 refine ab.at (ji KT h1 h2 hw.2.1 (by have:=hw.1;lia) hρ.1 fun iv V1 L1 hi=>?_) (by lia)
 nofun
 refine ao (i1.mono L1.ro) KT (aM _) (bI _) rfl i4.hand ?_
 nofun
 refine ab.at (ih (i4.mono L1.ro) hw.2.2.2.2 hi hρ fun r1 V2 L2 hr1=>?_) (by lia)
 nofun
 have L12:=L1.trans L2
 refine ab.at (mR KT hn ih hr1 (h1.mono L12.ro) hw (hi.mono L2.ro) (h2.mono L12.ro) hρ (cG hρ n b hw.2.2.2.2) fun r2 V3 L3 hr2=>?_) (by lia)
 nofun
 exact h _ _ (L12.trans L3) hr2
theorem nw(KT:HK c)(n:Nat)(hn:n<=8):jj c n:=by
 induction n with
 |zero=>intro V v ev t ρ Q h1;exact h1.elim
 |succ n ihn=>
  have ih:jj c n:=ihn (by lia)
  intro V v ev t ρ Q h1 hw h2 hρ h
  refine ab.deeper (d:=10*n+14+1) ?_ (by lia)
  refine eC (x0:="expr") (x1:="env") KT ?_
  intro env K
  try dsimp only at K
  let F:I2:=fun l1 V1 G=>V=V1->Lk l1 "expr" v->Lk l1 "env" ev->bh t≠59->G
  refine aC F ?_ ?_
  ·intro _ _
   nofun
   refine d9 KT h1 rfl ?_
   nofun
   by_cases hc:(bh t==59)=true
   ·refine bu hc ?_
    induction t using ai.cs<;>first| (cases hc;done) |skip
    nofun
    refine ao h1.var_ia KT (dE _) (bT _) rfl rfl ?_
    nofun
    refine⟨_,rfl,fun b bep V1 L1 hb0 hb1=>?_⟩
    nofun
    exact h _ _ L1 ⟨b,bep,rfl,hb1⟩
   ·refine bz hc ?_
    nofun
    exact(fun _ k=>k rfl (by rfl') (by rfl') (by simpa using hc))
  rintro l1 V1 rfl le1 lv1 hc1
  let F:I2:=fun l1 V2 G=>Le [] V V2->Lk l1 "expr" v->Lk l1 "env" ev->(bh t≠101/\bh t≠183/\bh t≠322)->G
  refine aC F ?_ ?_
  ·intro _ _
   nofun
   refine⟨bW rfl,fun tp htp=>?_⟩
   nofun
   have L1:Le [] V (V.set tp (.tup [.ref 101,.ref 183,.ref 322])):= .new htp
   refine oU (Ds:=[101,183,322]) KT (h1.mono L1.ro) (af (aj ..)) rfl ?_
   nofun
   by_cases hc:([101,183,322].any (bh t== ·))=true
   ·refine bu hc ?_
    nofun
    intro b bep V2 L2 hb0 hb1
    nofun
    refine h _ _ (L1.trans L2) ?_
    induction t using ai.cs<;>first| (cases hc;done) |exact⟨b,bep,rfl,hb1⟩
   ·refine bz hc ?_
    nofun
    exact fun _ κ=>κ L1 le1 lv1 (by simpa using hc)
  rintro l2 V2 L2 le2 lv2 hc2
  have h1':=h1.mono L2.ro
  have h2':=h2.mono L2.ro
  nofun
  refine d9 KT h1' rfl ?_
  nofun
  by_cases hc:(bh t==362)=true
  ·refine bu hc ?_
   induction t using ai.cs<;>first| (cases hc;done) |skip
   nofun
   refine ab.at (mO KT (Nat.le_of_succ_le_succ hn) ih h1' hw h2' hρ fun r V3 L3 hr=>?_) (by lia)
   nofun
   exact h _ _ (L2.trans L3) hr
  ·refine bz hc ?_
   nofun
   refine d9 KT h1' rfl ?_
   nofun
   by_cases hc3:(bh t==141)=true
   ·refine bu hc3 ?_
    induction t using ai.cs<;>first| (cases hc3;done) |skip
    rename_i f as
    nofun
    refine ab.at (mP KT (Nat.le_of_succ_le_succ hn) ih h1' hw h2' hρ fun r V3 L3 hr=>?_) (by lia)
    nofun
    exact h _ _ (L2.trans L3) (by rw[u0];exact hr)
   ·refine bz hc3 ?_
    nofun
    refine d9 KT h1' rfl ?_
    nofun
    by_cases hc4:(bh t==282)=true
    ·refine bu hc4 ?_
     induction t using ai.cs<;>first| (cases hc4;done) |skip
     nofun
     refine ab.at (mQ KT (Nat.le_of_succ_le_succ hn) ih h1' hw h2' hρ fun r V3 L3 hr=>?_) (by lia)
     nofun
     exact h _ _ (L2.trans L3) hr
    ·refine bz hc4 ?_
     nofun
     induction t using ai.cs<;>first| (exact absurd rfl hc1) | (exact absurd rfl hc2.1) | (exact absurd rfl hc2.2.1) | (exact absurd rfl hc2.2.2) | (exact absurd rfl hc) | (exact absurd rfl hc3) | (exact absurd rfl hc4) |skip
     refine ab.at (oZ KT (Nat.le_of_succ_le_succ hn) ih h1' hw h2' hρ fun r V3 L3 hr=>?_) (by lia)
     nofun
     exact h _ _ (L2.trans L3) hr
theorem u7(KT:HK c){v:Value}{s:Sg}(h1:tN V v s)(hf:s.free=[])(hz:s.flags.length<=1000)
  (h:∀r V',Le [] V V'->g9 V' r (.tuple [.tuple (s.flags.map .bool),.tuple [],.bool s.div])->Q r V'):ab c 1 (.ref 408) [v] V Q:=by
 refine cZ (x0:="self") KT ?_
 intro env K
 try dsimp only at K
 refine nU h1 fun fa fr ep i1 i2 i3=>?_
 rw[hf]at i3
 nofun
 refine ao i1 KT (cD _) (cV _) rfl rfl ?_
 nofun
 refine rV (af i2) (by rw[List.length_map];lia) fun t1 ht1=>?_
 have L1:Le [] V (V.set t1 (.tup (s.flags.map .bool))):= .new ht1
 nofun
 refine ao (i1.mono L1.ro) KT (cD _) (hJ _) rfl rfl ?_
 nofun
 refine sR (af (L1.ro _ _ i3)) fun l2 fZ=>?_
 have L2:=L1.new1 fZ (o:= .list [])
 nofun
 refine rV (af (aj ..)) (by simp) fun t2 ht2=>?_
 have L3:=L2.new1 ht2 (o:= .tup [])
 nofun
 refine ao (i1.mono L3.ro) KT (cD _) (dJ _) rfl rfl ?_
 nofun
 refine⟨bW rfl,fun t3 ht3=>?_⟩
 have n1:t1≠l2:=Ne.symm (aO fZ (aj ..))
 have e1:((V.set t1 (.tup (s.flags.map .bool))).set l2 (.list [])) t1=some (.tup (s.flags.map .bool)):=by rw[aA _ _ n1,aj]
 have n2:t1≠t2:=Ne.symm (aO ht2 e1)
 have e2:(((V.set t1 (.tup (s.flags.map .bool))).set l2 (.list [])).set t2 (.tup [])) t1=some (.tup (s.flags.map .bool)):=by rw[aA _ _ n2,e1]
 have n3:t1≠t3:=Ne.symm (aO ht3 e2)
 have n4:t2≠t3:=Ne.symm (aO ht3 (aj ..))
 nofun
 refine h _ _ (L3.new1 ht3) (.tup (af (aj ..)) (.cons (.tup (vs:=s.flags.map .bool) ?_ ?_) (.cons (.tup (vs:=[]) ?_ .nil) (.cons (.bool _) .nil))))
 ·exact af (o:= .tup (s.flags.map .bool)) ((aA _ _ n3).trans e2)
 ·have:∀(bs:List Bool) (V:St),kY V (bs.map .bool) (bs.map .bool):=fun bs V=>by
   induction bs with
   |nil=>exact .nil
   |cons b r ih=>exact .cons (.bool b) ih
  exact this _ _
 ·exact af (o:= .tup []) ((aA _ _ n4).trans (aj ..))
end
theorem dw{V:St}{a:Addr}{kvs:List (Str×Value)}{ep:Nat}(h:rd V a=some (.dict kvs ep)):dI V (.ref a)=true:=by unfold dI;dsimp only;rw[h]
noncomputable def cp(tops:List (Str×List Str×ai)):hU:=tops.map fun q=>(q.1,eN q.2.1.length)
noncomputable def cz(n:Nat)(tops:List (Str×List Str×ai))(ρ:hU):hU:=tops.map fun q=>(q.1,e8 (a8 n ρ) q.2.1 q.2.2)
noncomputable def te(s:Sg):PyData:= .tuple [.tuple (s.flags.map .bool),.tuple [],.bool s.div]
noncomputable def rq(a b:Sg):Bool:=PyData.eqv (te a) (te b)
noncomputable def fo(ρ K':hU):Bool:=(ρ.zip K').all fun p=>rq p.1.2 p.2.2
def Bg(n:Nat)(V:St)(p:Str×Value)(q:Str×List Str×ai):Prop:=p.1=q.1/\Rp (n+1) V p.2 (.lam q.2.1 q.2.2)
theorem Bg.mono{n:Nat}{V V':St}{p:Str×Value}{q:Str×List Str×ai}(h:Bg n V p q)(L:Ro V V'):Bg n V' p q:=⟨h.1,h.2.mono L⟩
def tf(V:St)(p:Str×Value)(q:Str×Sg):Prop:=p.1=q.1/\tN V p.2 q.2
theorem tf.mono{V V':St}{p:Str×Value}{q:Str×Sg}(h:tf V p q)(L:Ro V V'):tf V' p q:=⟨h.1,h.2.mono L⟩
theorem fp{α β:Type}{R:Str×α->Str×β->Prop}(hR:∀a b,R a b->a.1=b.1){xs:List (Str×α)}{ys:List (Str×β)}(p:PySem.Paired R xs ys):xs.map (·.1)=ys.map (·.1):=by
 induction p with
 |nil=>rfl
 |cons h _ ih=>rw[List.map_cons,List.map_cons,hR _ _ h,ih]
theorem lG{k:Kv}{x:Str}{v:Value}(h:x∉k.map (·.1)):stored k x v=k++ [(x,v)]:=by
 unfold stored
 rw[if_neg]
 intro q
 rw[List.any_eq_true]at q
 refine be q fun p hp e=>?_
 exact h (by have:p.1=x:=by simpa using e
             rw[←this];exact List.mem_map.mpr ⟨p,hp,rfl⟩)
theorem kl{k:Kv}{x:Str}{v:Value}(h:x∉k.map (·.1)):(k++ [(x,v)]).lookup x=some v:=by
 induction k with
 |nil=>rw[List.nil_append,List.lookup_cons];simp
 |cons a r ih=>
  rw[List.map_cons,List.mem_cons,not_or]at h
  obtain⟨an,av⟩:=a
  rw[List.cons_append,List.lookup_cons]
  have:(x==an)=false:=by simpa using h.1
  rw[this];exact ih h.2
theorem dM{xs:List Str}(h:xs.Nodup){i:Nat}{x:Str}(hx:xs[i]? =some x):x∉xs.take i:=by
 intro hm
 obtain⟨j,hj,e⟩:=List.mem_iff_getElem.mp hm
 rw[List.length_take]at hj
 rw[List.getElem_take]at e
 obtain⟨hi,e2⟩:=List.getElem?_eq_some_iff.mp hx
 have:=(List.getElem_inj (h₀:=by lia) (h₁:=hi) h).mp (e.trans e2.symm)
 lia
theorem yw{n:Nat}{V:St}{F:Kv}{tops:List (Str×List Str×ai)}(h:PySem.Paired (Bg n V) F tops)(hnd:(tops.map (·.1)).Nodup){i:Nat}{q:Str×List Str×ai}(hq:tops[i]? =some q):
  ∃v,F.lookup q.1=some v/\Rp (n+1) V v (.lam q.2.1 q.2.2):=by
 induction h generalizing i with
 |nil=>simp at hq
 |cons h1 hr ih=>
  rename_i a b l1 l2
  obtain⟨n1,v⟩:=a
  rw[List.map_cons,List.nodup_cons]at hnd
  induction i using dQ with
  |zero=>
   simp at hq;subst hq
   refine⟨v,?_,h1.2⟩
   rw[List.lookup_cons,show n1=b.1 from h1.1];simp
  |succ i=>
   have hq':l2[i]? =some q:=by simpa using hq
   refine be (ih hnd.2 hq') fun w e hw=>?_
   refine⟨w,?_,hw⟩
   have hne:(q.1==n1)=false:=by
    have:q.1∈l2.map (·.1):=List.mem_map.mpr ⟨q,List.mem_of_getElem? hq',rfl⟩
    have h2:q.1≠b.1:=fun e=>hnd.1 (e▸this)
    rw[show n1=b.1 from h1.1];simpa using h2
   rw[List.lookup_cons,hne];exact e
theorem Cc{V:St}{k:Kv}{ρ:hU}(h:PySem.Paired (tf V) k ρ)(hnd:(ρ.map (·.1)).Nodup){i:Nat}{q:Str×Sg}(hq:ρ[i]? =some q):∃v,k.lookup q.1=some v/\tN V v q.2:=by
 induction h generalizing i with
 |nil=>simp at hq
 |cons h1 hr ih=>
  rename_i a b l1 l2
  obtain⟨n1,v⟩:=a
  rw[List.map_cons,List.nodup_cons]at hnd
  induction i using dQ with
  |zero=>
   simp at hq;subst hq
   refine⟨v,?_,h1.2⟩
   rw[List.lookup_cons,show n1=b.1 from h1.1];simp
  |succ i=>
   have hq':l2[i]? =some q:=by simpa using hq
   refine be (ih hnd.2 hq') fun w e hw=>?_
   refine⟨w,?_,hw⟩
   have hne:(q.1==n1)=false:=by
    have:q.1∈l2.map (·.1):=List.mem_map.mpr ⟨q,List.mem_of_getElem? hq',rfl⟩
    have h2:q.1≠b.1:=fun e=>hnd.1 (e▸this)
    rw[show n1=b.1 from h1.1];simpa using h2
   rw[List.lookup_cons,hne];exact e
theorem sg{V V':St}(L:Le [] V V'){a:Addr}{o:cq}(h:rd V a=some o):rd V' a=some o:=by
 unfold rd at h ⊢
 induction e:V a with
 |none=>rw[e]at h;cases h
 |some o'=>rw[e]at h;rw[L.at0 e];exact h
theorem g9.mono{V V':St}(L:Le [] V V'){x:Value}{e:PyData}(h:g9 V x e):g9 V' x e:=
 g9.rec (motive_1:=fun x e _=>g9 V' x e) (motive_2:=fun xs es _=>kY V' xs es) .none .bool .int .str (fun h _ d=> .list (sg L h) d) (fun h _ d=> .tup (sg L h) d) .nil (fun _ _ a b=> .cons a b) h
theorem iq:∀bs:List Bool,PyData.canLayAll0 (bs.map .bool)=true
 | []=>rfl
 |b::r=>by rw[List.map_cons];unfold PyData.canLayAll0;rw[iq r];rfl
theorem fW:∀bs:List Bool,PyData.depthAll (bs.map .bool)=0
 | []=>rfl
 |b::r=>by rw[List.map_cons];unfold PyData.depthAll;rw[fW r];rfl
theorem sh(s:Sg):(te s).canLay0=true:=by
 show(PyData.canLayAll0 (s.flags.map .bool)&&(true&&(true&&true)))=true
 rw[iq];rfl
theorem ny(s:Sg):(te s).depth=2:=by
 show max (PyData.depthAll (s.flags.map .bool)+1) _+1=2
 rw[fW];rfl
theorem o0(xs ys:hU)(x y:Str×Sg)(h:xs.length=ys.length):fo (xs++ [x]) (ys++ [y])=(fo xs ys&&rq x.2 y.2):=by
 unfold fo
 rw[List.zip_append h,List.all_append];simp
theorem jJ{V:St}{k:Kv}{ρ:hU}(h:PySem.Paired (tf V) k ρ):k.map (·.1)=ρ.map (·.1):=fp (fun a b h=>h.1) h
section
variable{c:Cx}{d n:Nat}{env:Env}{l:au}{V:St}{p pos:Pos}{Q:Value->St->Prop}{QB:Bool->St->Prop}{QF:Fl->au->St->Prop}{QL:au->St->Prop}{ns:List (Str×NameKind)}
structure yx(n:Nat)(tops:List (Str×List Str×ai))(K1:hU):Prop where
 first:cz n tops (cp tops)=K1
 differ:fo K1 (cp tops)=false
 again:cz n tops K1=K1
 same:fo K1 K1=true
 ok0:fV (cp tops)
 ok1:fV K1
theorem rr(KT:HK c)(hn:n<=7){tops:List (Str×List Str×ai)}{K1:hU}(T:yx n tops K1){fa e0:Addr}{F:Kv}{fe ee:Nat}(h1:V fa=some (.ro (.dict F fe)))(hF:PySem.Paired (Bg n V) F tops)(h0:V e0=some (.ro (.dict [] ee)))
  (hnd:(tops.map (·.1)).Nodup) (hz:tops.length<=100) (hne:tops≠ []) (hw:∀q∈tops,q.2.1.length<=4/\Wf n q.2.2)
  (h:∀v V',Le [] V V'->fO V' v K1->Q v V'):ab c (10*n+8) (.ref 489) [.ref fa,.ref e0] V Q:=by
 refine ab.frz (eC (x0:="functions") (x1:="env") KT ?_)
 intro env K
 try dsimp only at K
 have ih:jj c n:=nw KT n (by lia)
 have hFl:F.length=tops.length:=hF.length
 have hkeys:F.map (·.1)=tops.map (·.1):=fp (fun a b h=>h.1) hF
 nofun
 refine⟨_,fJ (af h1),fun cenv CK=>?_⟩
 let Jx:I4:=fun i acc l' V' G=>Le [] V V'->Lk l' "functions" (.ref fa)->∀k,acc= .d k->PySem.Paired (tf V') k ((cp tops).take i)->G
 refine aq (F.map fun p=>aJ p.1) Jx ?_ ?_ ?_ _ 0 (by simp;rfl) (by exact fun _ k=>k (.refl ..) (by rfl') ([]) rfl .nil)
 ·rintro i acc l' V' L - - - -
  exact gI (af (L.ro _ _ h1)) i
 ·rintro i x acc l' V' hx R hR L hl k rfl hk
  have hx':((tops.map (·.1)).map aJ)[i]? =some x:=by rw[←hkeys,List.map_map];exact hx
  rw[List.getElem?_map,Option.map_eq_some_iff]at hx'
  refine be hx' fun y hy z2=>?_;subst z2
  rw[List.getElem?_map,Option.map_eq_some_iff]at hy
  refine be hy fun q hq z2=>?_;subst z2
  refine be (yw hF hnd hq) fun lv hlv hlr=>?_
  refine dl (hlr.mono L.ro) fun pa bv j1 j2 j3=>?_
  unfold aJ
  nofun
  refine⟨dw (af (L.ro _ _ h1)),?_⟩
  refine dS (af (L.ro _ _ h1)) hlv ?_
  refine ao j1 KT (bP _) (bB _) rfl rfl ?_
  nofun
  have hps:=(hw q (List.mem_of_getElem? hq)).1
  refine cg (.inl (af j2)) (by rw[List.length_map];lia) ?_
  rw[List.length_map]
  nofun
  refine ab.at (lB (n:=q.2.1.length) KT (by lia) fun r V2 L2 hr=>?_) (by lia)
  have hkl:k.length=((cp tops).take i).length:=hk.length
  have hknames:k.map (·.1)=(tops.map (·.1)).take i:=by
   rw[fp (fun a b h=>h.1) hk]
   unfold cp
   rw[←List.map_take,List.map_map,←List.map_take];rfl
  refine⟨q.1,rfl,by rw[hkl,List.length_take];unfold cp;rw[List.length_map,sizeLine_eq];lia,(hR _ _ _ _ fun _ k=>k (L.trans L2) (dD (by kernel_rfl) hl) _ rfl ?_)⟩
  rw[lG (by rw[hknames];exact dM hnd (by rw[List.getElem?_map,hq];rfl))]
  have hq':(cp tops)[i]? =some (q.1,eN q.2.1.length):=by unfold cp;rw[List.getElem?_map,hq];rfl
  rw[am hq']
  exact Paired.snoc' (Paired.imp (fun _ _ q=>q.mono L2.ro) hk) ⟨rfl,hr⟩
 ·rintro acc l' V' L hl k rfl hk
  intro f0 hf0
  unfold Mine.gG
  intro fe0
  rw[show(cp tops).take (F.map fun p=>aJ p.1).length=cp tops from List.take_of_length_le (by unfold cp;simp[hFl])]at hk
  have L1:=L.new1 hf0 (o:= .dict k fe0)
  have hk1:PySem.Paired (tf (V'.set f0 (.dict k fe0))) k (cp tops):=Paired.imp (fun _ _ q=>q.mono (Le.new (M:=[]) hf0).ro) hk
  have hf0n:=L.none0 hf0 nn
  nofun
  intro z ez V2 L12 hz0 hz1
  nofun
  refine uY (af ((L1.trans L12).ro _ _ h1)) (af hz1) ?_
  have hFe:F.isEmpty=false:=by cases F with|nil=>(exfalso;apply hne;exact List.length_eq_zero_iff.mp (by rw[←hFl];rfl)) |cons _ _=>rfl
  rw[hFe]
  nofun
  --the loop
  refine S.mono (QF:=fun f l3 V3=>f= .next/\Le [] V V3/\∃f3 k3 e3,Lk l3 "found" (.ref f3)/\V f3=none/\V3 f3=some (.dict k3 e3)/\PySem.Paired (tf V3) k3 K1) ?_ ?_
  rotate_left
  ·rintro f l3 V3 ⟨rfl,L3,f3,k3,e3,g1,g0,g2,g3⟩
   nofun
   exact⟨[f3],h _ _ (aR L3 (by simpa using g0)) ⟨f3,e3,k3,rfl,aN List.mem_cons_self g2 rfl,Paired.imp (fun _ _ q=>q.mono (aD _ _)) g3⟩⟩
  refine iZ ?_
  let Jw:I3:=fun j l3 V3 G=>∀Kf m f3 k3 e3,((j=2/\Kf=cp tops/\m=false)∨(j=1/\Kf=K1/\m=false)∨(j=0/\Kf=K1/\m=true))->Le [] V V3->Lk l3 "functions" (.ref fa)->Lk l3 "env" (.ref e0)->Lk l3 "is_same" (.bool m)->Lk l3 "found" (.ref f3)->V f3=none->V3 f3=some (.dict k3 e3)->PySem.Paired (tf V3) k3 Kf->G
  refine lF Jw ?_ 2 _ _
   (by exact fun _ κ=>κ (cp tops) false f0 k fe0 (.inl ⟨rfl,rfl,rfl⟩) (L1.trans L12) (by rfl') (by rfl') (by rfl') (by rfl') hf0n (L12.at0 (aj ..)) (Paired.imp (fun _ _ q=>q.mono L12.ro) hk1))
  rintro j l3 V3 R hR Kf m f3 k3 e3 hj L3 lf le ls lfo hf3 hf3d hp3
  nofun
  induction m with
  |true=>
   nofun
   have hρ:Kf=K1:=by
    rcases hj with⟨_,_,q⟩ | ⟨_,_,q⟩ | ⟨_,q,_⟩
    ·cases q
    ·cases q
    ·exact q
   subst hρ
   exact⟨rfl,L3,f3,k3,e3,lfo,hf3,hf3d,hp3⟩
  |false=>
   refine bu rfl ?_
   have hKf:Kf=cp tops∨Kf=K1:=by
    rcases hj with⟨_,q,_⟩ | ⟨_,q,_⟩ | ⟨_,q,_⟩
    ·exact .inl q
    ·exact .inr q
    ·exact .inr q
   have hok:fV Kf:=by rcases hKf with rfl|rfl;exact T.ok0;exact T.ok1
   have hrl:Kf.length=tops.length:=by
    rcases hKf with rfl|rfl
    ·unfold cp;simp
    ·rw[←T.first];unfold cz;simp
   have hrn:Kf.map (·.1)=tops.map (·.1):=by
    rcases hKf with rfl|rfl
    ·unfold cp;rw[List.map_map];rfl
    ·rw[←T.first];unfold cz;rw[List.map_map];rfl
   have hk3l:k3.length=tops.length:=by rw[hp3.length,hrl]
   have hk3n:(k3.map (·.1)).Nodup:=by rw[fp (fun a b h=>h.1) hp3,hrn];exact hnd
   refine aG ?_
   refine r8 K (by kernel_rfl) ?_
   walk_at "me"
   repeat walk_at "me"
   refine ab.at (hO KT (af (L3.ro _ _ h0)) (af hf3d) (by rw[hk3l,sizeLine_eq];simp;lia) fun kn kep V4 L4 hkn0 hkn1=>?_) (by lia)
   rw[merged_nil_of_nodup _ hk3n]at hkn1
   walk_at "me"
   dsimp only
   refine aG (br (ky fun la le0 hla=>?_) rfl rfl rfl)
   have L5:=L4.new1 hla (o:= .dict [] le0)
   walk_at "me"
   dsimp only
   refine aG ?_
   walk_at "me"
   walk_at "me"
   have L35:=L3.trans L5
   have hla0:=(L3.trans L4).none0 hla nn
   have hfl:f3≠la:=Ne.symm (aO hla (L4.at0 hf3d))
   have hknl:kn≠la:=Ne.symm (aO hla hkn1)
   have hsl:(cz n tops Kf).length=tops.length:=by unfold cz;simp
   refine⟨_,fJ (af (L35.ro _ _ h1)),?_⟩
   let Jx:I3:=fun i l4 V6 G=>∀lk le4,Le [] V V6->Lk l4 "functions" (.ref fa)->Lk l4 "env" (.ref e0)->Lk l4 "known" (.ref kn)->Lk l4 "later" (.ref la)->Lk l4 "found" (.ref f3)->Lk l4 "is_same" (.bool (fo ((cz n tops Kf).take i) (Kf.take i)))->V6 la=some (.dict lk le4)->PySem.Paired (tf V6) lk ((cz n tops Kf).take i)->V6 kn=some (.ro (.dict k3 kep))->V6 f3=some (.dict k3 e3)->PySem.Paired (tf V6) k3 Kf->G
   refine cW (F.map fun p=>aJ p.1) Jx ?_ ?_ ?_ _ 0 (by simp;rfl)
    (by exact fun _ k=>k ([]) le0 L35 (by rfl') (by rfl') (by rfl') (by rfl') (by rfl') (by rfl') (aj ..) .nil (by rw[aA _ _ hknl];exact hkn1) (by rw[aA _ _ hfl];exact L4.at0 hf3d) (Paired.imp (fun _ _ q=>q.mono L5.ro) hp3))
   ·rintro i l4 V6 lk le4 L6 - - - - - - - - - - -
    exact gI (af (L6.ro _ _ h1)) i
   ·rintro i x l4 V6 hx R hR lk le4 L6 b1 b2 b3 b4 b5 b6 hlk hpl hkn6 hf6 hp6
    have hx':((tops.map (·.1)).map aJ)[i]? =some x:=by rw[←hkeys,List.map_map];exact hx
    rw[List.getElem?_map,Option.map_eq_some_iff]at hx'
    refine be hx' fun y hy z2=>?_;subst z2
    have hy':=hy
    rw[List.getElem?_map,Option.map_eq_some_iff]at hy
    refine be hy fun q hq z2=>?_;subst z2
    refine be (yw hF hnd hq) fun lv hlv hlr=>?_
    have hwq:=hw q (List.mem_of_getElem? hq)
    have hsq:(cz n tops Kf)[i]? =some (q.1,e8 (a8 n Kf) q.2.1 q.2.2):=by unfold cz;rw[List.getElem?_map,hq];rfl
    have hlt:i<Kf.length:=by rw[hrl];exact(List.getElem?_eq_some_iff.mp hq).1
    obtain⟨os,hos,hon⟩:∃os,Kf[i]? =some os/\os.1=q.1:=by
     refine⟨Kf[i],List.getElem?_eq_getElem hlt,?_⟩
     have e:(Kf.map (·.1))[i]? =some q.1:=by rw[hrn];exact hy'
     rw[List.getElem?_map,List.getElem?_eq_getElem hlt]at e
     exact Option.some.inj e
    unfold aJ
    nofun
    refine⟨dw (af (L6.ro _ _ h1)),?_⟩
    refine dS (af (L6.ro _ _ h1)) hlv ?_
    nofun
    refine ab.at (gR (ρ:=Kf) KT hn ih (hlr.mono L6.ro) hwq ⟨kn,kep,k3,rfl,hkn6,hp6⟩ hok fun r V7 L7 hr=>?_) (by lia)
    nofun
    have hlk7:=L7.at0 hlk
    have hlkn:lk.map (·.1)=(tops.map (·.1)).take i:=by
     rw[jJ hpl];unfold cz
     rw[←List.map_take,List.map_map,←List.map_take];rfl
    refine jb hlk7 (by rw[hpl.length,List.length_take];exact sz (jV (mu hsl (fQ hz rfl)))) fun le5=>?_
    rw[lG (by rw[hlkn];exact dM hnd hy')]
    have R8:Ro V7 (V7.set la (.dict (lk++ [(q.1,r)]) le5)):=cj hlk7 rfl
    have L8:=(L6.trans L7).touch hla0 hlk7 rfl (o':= .dict (lk++ [(q.1,r)]) le5)
    have hpl8:PySem.Paired (tf (V7.set la (.dict (lk++ [(q.1,r)]) le5))) (lk++ [(q.1,r)]) ((cz n tops Kf).take (i+1)):=by
     rw[am hsq]
     exact Paired.snoc' (Paired.imp (fun _ _ q=>(q.mono L7.ro).mono R8) hpl) ⟨rfl,hr.mono R8⟩
    have hp8:PySem.Paired (tf (V7.set la (.dict (lk++ [(q.1,r)]) le5))) k3 Kf:=Paired.imp (fun _ _ q=>(q.mono L7.ro).mono R8) hp6
    have hkn8:(V7.set la (.dict (lk++ [(q.1,r)]) le5)) kn=some (.ro (.dict k3 kep)):=R8 _ _ (L7.ro _ _ hkn6)
    have hf8:(V7.set la (.dict (lk++ [(q.1,r)]) le5)) f3=some (.dict k3 e3):=by rw[aA _ _ hfl];exact L7.at0 hf6
    nofun
    have hall:fo ((cz n tops Kf).take (i+1)) (Kf.take (i+1))=(fo ((cz n tops Kf).take i) (Kf.take i)&&rq (e8 (a8 n Kf) q.2.1 q.2.2) os.2):=by rw[am hsq,am hos];exact o0 _ _ _ _ (by rw[List.length_take,List.length_take,hsl,hrl])
    induction hm:fo ((cz n tops Kf).take i) (Kf.take i)with
    |false=>
     nofun
     exact(fun _ k=>k _ le5 L8 (by rfl') (by rfl') (by rfl') (by rfl') (by rfl') (by rw[hall,hm];exact uO _ _ _) (aj ..) hpl8 hkn8 hf8 hp8)
    |true=>
     nofun
     have hstep:cz n tops Kf=K1:=by rcases hKf with rfl|rfl;exact T.first;exact T.again
     have hnew:=T.ok1.2 (q.1,e8 (a8 n Kf) q.2.1 q.2.2) (by rw[←hstep];exact List.mem_of_getElem? hsq)
     have hold:=hok.2 os (List.mem_of_getElem? hos)
     refine⟨dw (af (aj ..)),?_⟩
     refine dS (v:=r) (af (aj ..)) ?_ ?_
     ·exact kl (by rw[hlkn];exact dM hnd hy')
     have hr8:=hr.mono R8
     refine nU (id hr8) fun nf nr nep s1 s2 s3=>?_
     refine dF s1 KT rfl (cD _) (ll _) (lm _) ⟨bJ KT (ur _),?_⟩
     nofun
     refine ab.at (u7 KT hr8 hnew.2 (Nat.le_trans hnew.1 (by decide)) fun rv V9 L9 hd9=>?_) (by lia)
     nofun
     refine⟨dw (af (L9.at0 hf8)),?_⟩
     refine be (Cc (Paired.imp (fun _ _ q=>q.mono L9.ro) hp8) (by rw[hrn];exact hnd) hos) fun ov hov hor=>?_
     rw[hon]at hov
     refine dS (af (L9.at0 hf8)) hov ?_
     refine nU (id hor) fun nf2 nr2 nep2 u1 u2 u3=>?_
     refine dF u1 KT rfl (cD _) (ll _) (lm _) ⟨bJ KT (ur _),?_⟩
     nofun
     refine ab.at (u7 KT hor hold.2 (Nat.le_trans hold.1 (by decide)) fun rv2 V10 L10 hd10=>?_) (by lia)
     nofun
     refine ua (hd9.mono L10) hd10 (sh _) (sh _) (by show min (te _).depth (te _).depth<=_;rw[ny,ny];lia) ?_
     nofun
     have L910:=L9.trans L10
     refine(fun _ k=>k _ le5 (L8.trans L910) (by rfl') (by rfl') (by rfl') (by rfl') (by rfl') ?_ (L910.at0 (aj ..)) (Paired.imp (fun _ _ q=>q.mono L910.ro) hpl8) (L910.ro _ _ hkn8) (L910.at0 hf8) (Paired.imp (fun _ _ q=>q.mono L910.ro) hp8))
     rw[hall,hm,Bool.true_and]
     exact uO _ _ _
   ·rintro l4 V6 lk le4 L6 b1 b2 b3 b4 b5 b6 hlk hpl hkn6 hf6 hp6
    have hstep:cz n tops Kf=K1:=by rcases hKf with rfl|rfl;exact T.first;exact T.again
    have e1:(cz n tops Kf).take (F.map fun p=>aJ p.1).length=K1:=by rw[List.take_of_length_le (by rw[List.length_map,hFl,hsl];exact Nat.le_refl _),hstep]
    have e2:Kf.take (F.map fun p=>aJ p.1).length=Kf:=List.take_of_length_le (by rw[List.length_map,hFl,hrl];exact Nat.le_refl _)
    rw[e1]at hpl b6
    rw[e2]at b6
    nofun
    rcases hj with⟨rfl,rfl,_⟩ | ⟨rfl,rfl,_⟩ | ⟨_,_,q⟩
    ·rw[T.differ]at b6
     exact⟨1,by decide,fun _ κ=>κ K1 false la lk le4 (.inr (.inl ⟨rfl,rfl,rfl⟩)) L6 (by rfl') (by rfl') (by rfl') (by rfl') hla0 hlk hpl⟩
    ·rw[T.same]at b6
     exact⟨0,by decide,fun _ κ=>κ Kf true la lk le4 (.inr (.inr ⟨rfl,rfl,rfl⟩)) L6 (by rfl') (by rfl') (by rfl') (by rfl') hla0 hlk hpl⟩
    ·cases q
end
noncomputable def jl:List (Str×List Str×ai):=[("add",["r.a","r.b"],.prim "intAdd" [.var "r.a",.var "r.b"]),("look",["q.a","q.b"],.case (.var "q.a") "q.c" [(0,.var "q.b")] (some (.lit 1))),
 ("stop",["s.a"],.prim "error" [.var "s.a"]),("cell",["t.a"],.con "C" [.var "t.a"])]
noncomputable def ay:hU:=[("add",⟨[true,true],[],false⟩),("look",⟨[true,false],[],false⟩),("stop",⟨[true],[],true⟩),("cell",⟨[false],[],false⟩)]
theorem si:yx 7 jl ay where
 first:=by kernel_rfl
 differ:=by kernel_rfl
 again:=by kernel_rfl
 same:=by kernel_rfl
 ok0:=⟨by decide+kernel,by
  intro p hp
  unfold cp jl at hp
  simp at hp
  rcases hp with rfl|rfl|rfl|rfl<;>exact⟨by decide,rfl⟩⟩
 ok1:=⟨by decide+kernel,by
  intro p hp
  unfold ay at hp
  simp at hp
  rcases hp with rfl|rfl|rfl|rfl<;>exact⟨by decide,rfl⟩⟩
theorem dA:fV ay:=si.ok1
theorem xw:(jl.map (·.1)).Nodup:=by decide+kernel
theorem sj:∀q∈jl,q.2.1.length<=4/\Wf 7 q.2.2:=by
 intro q hq
 unfold jl at hq
 simp at hq
 rcases hq with rfl|rfl|rfl|rfl
 ·exact⟨by decide,by decide,fun a ha=>by simp at ha;rcases ha with rfl|rfl<;>trivial⟩
 ·exact⟨by decide,trivial,by decide,fun p hp=>by simp at hp;subst hp;trivial,fun t ht=>by cases ht;trivial⟩
 ·exact⟨by decide,by decide,fun a ha=>by simp at ha;subst ha;trivial⟩
 ·exact⟨by decide,by decide,fun a ha=>by simp at ha;subst ha;trivial⟩
noncomputable def bU(m:ai):List (Str×ai):=(jl.map fun q=>(q.1,ai.lam q.2.1 q.2.2))++ [(("main":Str),m)]
theorem xx{n:Nat}{V:St}{pvs:List Value}{ts:List (Str×Value×ai)}{m:ai}(hp:PySem.Paired (vX (n+1) V) pvs ts)(hts:ts.map eP=bU m)(hm:(bh m==183)=false):PySem.Paired (Bg n V) (mN ts) jl:=by
 have hl:ts.length=5:=by have:=congrArg List.length hts;rw[List.length_map]at this;exact this
 obtain⟨⟨x1,v1,t1⟩,r1,rfl,l1⟩:=cQ hl
 obtain⟨⟨x2,v2,t2⟩,r2,rfl,l2⟩:=cQ l1
 obtain⟨⟨x3,v3,t3⟩,r3,rfl,l3⟩:=cQ l2
 obtain⟨⟨x4,v4,t4⟩,r4,rfl,l4⟩:=cQ l3
 obtain⟨⟨x5,v5,t5⟩,r5,rfl,l5⟩:=cQ l4
 cases List.eq_nil_of_length_eq_zero l5
 unfold bU jl eP at hts
 simp only[List.map_cons,List.map_nil,List.cons_append,List.nil_append,List.cons.injEq,Prod.mk.injEq,and_true]at hts
 obtain⟨⟨rfl,rfl⟩,⟨rfl,rfl⟩,⟨rfl,rfl⟩,⟨rfl,rfl⟩,rfl,rfl⟩:=hts
 have hk:mN [("add",v1,ai.lam ["r.a","r.b"] (.prim "intAdd" [.var "r.a",.var "r.b"])),("look",v2,ai.lam ["q.a","q.b"] (.case (.var "q.a") "q.c" [(0,.var "q.b")] (some (.lit 1)))),("stop",v3,ai.lam ["s.a"] (.prim "error" [.var "s.a"])),("cell",v4,ai.lam ["t.a"] (.con "C" [.var "t.a"])),("main",v5,t5)]=
   ([("add",v1),("look",v2),("stop",v3),("cell",v4)]:List (Str×Value)):=by
  have h5:∀acc:Kv,ed acc ("main",v5,t5)=acc:=fun acc=>by unfold ed;rw[if_neg (by dsimp only;rw[hm];decide)]
  unfold mN
  simp only[List.foldl_cons,List.foldl_nil,h5]
  kernel_rfl
 rw[hk]
 cases hp with|cons a1 r1=>cases r1 with|cons a2 r2=>cases r2 with|cons a3 r3=>cases r3 with|cons a4 r4=>
 refine iz a1 fun _ _ _ g1=>?_
 refine iz a2 fun _ _ _ g2=>?_
 refine iz a3 fun _ _ _ g3=>?_
 refine iz a4 fun _ _ _ g4=>?_
 exact .cons ⟨rfl,g1⟩ (.cons ⟨rfl,g2⟩ (.cons ⟨rfl,g3⟩ (.cons ⟨rfl,g4⟩ .nil)))
section
variable{c:Cx}{d n:Nat}{env:Env}{l:au}{V:St}{p pos:Pos}{Q:Value->St->Prop}{QB:Bool->St->Prop}{QF:Fl->au->St->Prop}{QL:au->St->Prop}{ns:List (Str×NameKind)}
theorem mS(KT:HK c){v:Value}{b:Addr}{w1 w2:Value}{pvs:List Value}{ts:List (Str×Value×ai)}{m:ai}(h1:IA V v 383 [("binds",.ref b),("cons",w1),("main",w2)])(h2:V b=some (.ro (.list pvs)))
  (hp:PySem.Paired (vX 8 V) pvs ts) (hts:ts.map eP=bU m) (hm:(bh m==183)=false) (h:∀v V',Le [] V V'->fO V' v ay->Q v V'):ab c 80 (.ref 513) [v] V Q:=by
 refine cZ (x0:="program") KT ?_
 intro env K
 try dsimp only at K
 nofun
 refine ao h1 KT (dZ _) (d0 _) rfl rfl ?_
 nofun
 have hl:ts.length=5:=by have:=congrArg List.length hts;rw[List.length_map]at this;exact this
 refine ab.at (gQ KT h2 hp (by lia) fun fa fe V1 L1 hf0 hf1=>?_) (by lia)
 nofun
 intro e0 ee V2 L2 he0 he1
 nofun
 refine ab.at (rr (n:=7) KT (Nat.le_refl _) si (L2.ro _ _ hf1) (Paired.imp (fun _ _ q=>q.mono (L1.trans L2).ro) (xx hp hts hm)) he1 xw (by decide) (by decide) sj fun r V3 L3 hr=>?_) (by lia)
 nofun
 exact h _ _ ((L1.trans L2).trans L3) hr
noncomputable def de(t:ai):Bool:=[59,101,183,322].any (bh t== ·)
theorem lH(KT:HK c){v:Value}{t:ai}(h1:Rp n V v t)(h:∀V',Le [] V V'->Q (.bool (de t)) V'):ab c 1 (.ref 520) [v] V Q:=by
 refine cZ (x0:="expr") KT ?_
 intro env K
 try dsimp only at K
 nofun
 refine⟨bW rfl,fun tp htp=>?_⟩
 nofun
 have L1:Le [] V (V.set tp (.tup [.ref 59,.ref 101,.ref 183,.ref 322])):= .new htp
 refine oU (Ds:=[59,101,183,322]) KT (h1.mono L1.ro) (af (aj ..)) rfl ?_
 nofun
 exact h _ L1
theorem hV(KT:HK c){v:Value}{t:ai}(h1:Rp n V v t)(h:∀V',Le [] V V'->Q (.bool (de t)) V'):ab c 1 (.ref 844) [v] V Q:=by
 refine cZ (x0:="expr") KT ?_
 intro env K
 try dsimp only at K
 nofun
 refine⟨bW rfl,fun tp htp=>?_⟩
 nofun
 have L1:Le [] V (V.set tp (.tup [.ref 59,.ref 101,.ref 183,.ref 322])):= .new htp
 refine oU (Ds:=[59,101,183,322]) KT (h1.mono L1.ro) (af (aj ..)) rfl ?_
 nofun
 exact h _ L1
end
noncomputable def aB(k:Nat):Str:=("arg":Str)++(".":Str)++(toString (k:Int):String)
noncomputable def hW(k:Nat):Kv:=if k=0 then []else [("arg",.int k 0)]
noncomputable def Cp:Kv:=[("x",kh),("y",kh),("z",kh)]
def gp(V:St)(v:Value)(nd:Addr)(k:Nat):Prop:=∃ad ae ne,IA V v 764 [("avoided",.ref ad),("numbers",.ref nd)]/\V ad=some (.ro (.dict Cp ae))/\V nd=some (.dict (hW k) ne)
theorem gp.keep{V V':St}{v:Value}{nd:Addr}{k:Nat}(h:gp V v nd k)(L:Le [] V V'):gp V' v nd k:=by
 refine nU h fun ad ae ne h1 h2 h3=>?_
 exact⟨ad,ae,ne,h1.mono L.ro,L.ro _ _ h2,L.at0 h3⟩
theorem eS(a b:Str):(a++b).length=a.length+b.length:=by
 show(a.cps++b.cps).size=_
 rw[Array.size_append];rfl
theorem qm(k:Nat):4<=(aB k).length:=by
 unfold aB
 rw[eS,eS]
 have h1:("arg":Str).length=3:=by kernel_rfl
 have h2:(".":Str).length=1:=by kernel_rfl
 lia
theorem xy(k:Nat):Cp.lookup (aB k)=none:=by
 have h:=qm k
 have ne:∀y:Str,y.length<=1->(aB k==y)=false:=fun y hy=>by
  simp only[beq_eq_false_iff_ne,ne_eq]
  intro e;rw[e]at h;exact Bh (bC h hy)
 unfold Cp
 rw[List.lookup_cons,ne _ (by decide+kernel),List.lookup_cons,ne _ (by decide+kernel),List.lookup_cons,ne _ (by decide+kernel)]
 rfl
theorem jK{k:Nat}(h:k<1000000000):(k:Int).natAbs.log2<1920:=by
 rw[Int.natAbs_natCast]
 by_cases h0:k=0
 ·subst h0;decide
 ·have:k.log2<30:=(Nat.log2_lt h0).mpr (Nat.lt_trans h (by decide))
  lia
theorem nz{k:Nat}(h:k<1000000000):((toString (k:Int):String):Str).length<=1000:=by
 have:=KT.len_num (n:=(k:Int)) (by lia) (by lia)
 exact Nat.le_trans this (by decide)
section
variable{c:Cx}{d n:Nat}{env:Env}{l:au}{V:St}{p pos:Pos}{Q:Value->St->Prop}{QB:Bool->St->Prop}{QF:Fl->au->St->Prop}{QL:au->St->Prop}{ns:List (Str×NameKind)}
theorem rt(KT:HK c)(h:Q (.str "arg" 0) V):ab c 1 (.ref 731) [.str "arg" 0] V Q:=by
 refine cZ (x0:="name") KT ?_
 intro env K
 try dsimp only at K
 nofun
 refine wj ⟨trivial,?_⟩
 nofun
 refine wm ?_
 nofun
 refine pO ?_
 have:Txt.rfind ("arg":Str) (".":Str)= -1:=by kernel_rfl
 rw[this]
 nofun
 exact h
theorem xz(KT:HK c){v:Value}{nd:Addr}{k:Nat}(hk:k<100000000)(h1:gp V v nd k)(h:∀V',Le [nd] V V'->gp V' v nd (k+1)->Q (.str (aB (k+1)) 0) V'):ab c 2 (.ref 761) [v,.str "arg" 0] V Q:=by
 refine eC (x0:="self") (x1:="base") KT ?_
 intro env K
 try dsimp only at K
 refine nU h1 fun ad ae ne i1 i2 i3=>?_
 nofun
 refine ab.at (rt KT ?_) (by lia)
 nofun
 refine ao i1 KT (fm _) (fH _) rfl rfl ?_
 refine k8 (af i3) ⟨trivial,?_⟩
 nofun
 refine ld (af i3) ?_
 have hg:((hW k).lookup ("arg":Str)).getD (.int 0 0)= .int (k:Int) 0:=by
  unfold hW
  by_cases h0:k=0
  ·subst h0;rfl
  ·rw[if_neg h0];rfl
 rw[hg]
 nofun
 refine jY ?_
 have hk1:(k:Int)+1=((k+1:Nat):Int):=by lia
 rw[hk1]
 nofun
 have qH:("arg":Str).length=3:=by kernel_rfl
 have eK:(".":Str).length=1:=by kernel_rfl
 have hlt:=nz (k:=k+1) (by exact bK hk)
 refine iZ (j6 ?_)
 nofun
 refine jC (by rw[qH,eK];decide) ?_
 nofun
 refine oh (jK (by exact bK hk)) ?_
 refine jC (by rw[eS,qH,eK];exact bK hlt) ?_
 nofun
 refine ao i1 KT (fm _) (fG _) rfl rfl ?_
 refine nb (af i2) ?_
 nofun
 rw[show Cp.lookup (("arg":Str)++(".":Str)++((toString ((k+1:Nat):Int):String):Str))=none from xy (k+1)]
 nofun
 refine ao i1 KT (fm _) (fH _) rfl rfl ?_
 nofun
 refine jb i3 (by unfold hW;split<;>simp[sizeLine_eq]) fun ne'=>?_
 have hst:stored (hW k) ("arg":Str) (.int ((k+1:Nat):Int) 0)=hW (k+1):=by
  unfold hW
  by_cases h0:k=0
  ·subst h0;rfl
  ·rw[if_neg h0,if_neg (by lia)];rfl
 rw[hst]
 have L1:Le [nd] V (V.set nd (.dict (hW (k+1)) ne')):= .upd List.mem_cons_self i3 (fun r e=>by cases e)
 nofun
 refine jC (by rw[qH,eK];decide) ?_
 nofun
 refine oh (jK (by exact bK hk)) ?_
 refine jC (by rw[eS,qH,eK];exact bK hlt) ?_
 exact h _ L1 ⟨ad,ae,ne',i1.mono L1.ro,L1.ro _ _ i2,aj ..⟩
end
noncomputable def aZ(f:Nat->ai->ai×Nat):Nat->List ai->List ai×Nat
 |k,[]=>([],k)
 |k,a::r=>((f k a).1::(aZ f (f k a).2 r).1,(aZ f (f k a).2 r).2)
noncomputable def ci(f:Nat->ai->ai×Nat):Nat->List (Int×ai)->List (Int×ai)×Nat
 |k,[]=>([],k)
 |k,a::r=>((a.1,(f k a.2).1)::(ci f (f k a.2).2 r).1,(ci f (f k a.2).2 r).2)
noncomputable def bO(f:Nat->ai->ai×Nat):Nat->List (Str×ai)->List (Str×ai)×Nat
 |k,[]=>([],k)
 |k,a::r=>((a.1,(f k a.2).1)::(bO f (f k a.2).2 r).1,(bO f (f k a.2).2 r).2)
noncomputable def fP(f:Nat->ai->ai×Nat)(k:Nat):Option ai->Option ai×Nat
 |none=>(none,k)
 |some t=>(some (f k t).1,(f k t).2)
structure Ah where
 args:List ai
 ahead:List (Str×ai)
 k:Nat
noncomputable def cw(nm:Nat->Str)(flags:List Bool)(as:List ai)(s:Ah)(at_:Nat):Ah:=
 match flags[at_]?,as[at_]?,s.args[at_]? with
 |some true,some a,some b=>if de a=true then s else⟨s.args.set at_ (.var (nm (s.k+1))),s.ahead++ [(nm (s.k+1),b)],s.k+1⟩
 |_,_,_=>s
noncomputable def ct(nm:Nat->Str)(known:Option Sg)(as:List ai)(args:List ai)(k:Nat):Ah:=match known with
 |none=>⟨args,[],k⟩
 |some s=>if s.div=true then⟨args,[],k⟩else if args.length<s.flags.length then⟨args,[],k⟩else(List.range s.flags.length).foldl (cw nm s.flags as) ⟨args,[],k⟩
noncomputable def gS(ahead:List (Str×ai))(t:ai):ai:=ahead.reverse.foldl (fun f p=> .case p.2 p.1 [] (some f)) t
noncomputable def cH(ρ:hU):ai->Option Sg
 | .var x=>ρ.lookup x
 |_=>none
noncomputable def ei(n:Nat)(ρ:hU)(bs:List (Str×ai))(b:ai)(r:Bool):Bool:=match bs with
 | [(x,t)]=> !r&& !de t&&(match a8 n ρ b with|none=>false|some k=>(k.lookup x).isSome)
 |_=>false
noncomputable def qn(go:Bool)(bs:List (Str×ai))(b:ai)(r:Bool):ai:=match go,bs with
 |true,[(x,t)]=> .case t x [] (some b)
 |_,_=> .letn bs b r
noncomputable def ak(ρ:hU):Nat->Nat->ai->ai×Nat
 |0,k,t=>(t,k)
 |n+1,k,t=>match t with
  | .var x=>(.var x,k)
  | .lit i=>(.lit i,k)
  | .lam ps b=>(.lam ps (ak ρ n k b).1,(ak ρ n k b).2)
  | .con x as=>(.con x (aZ (ak ρ n) k as).1,(aZ (ak ρ n) k as).2)
  | .prim op as=>(.prim op (aZ (ak ρ n) k as).1,(aZ (ak ρ n) k as).2)
  | .app f as=>
    let r:=aZ (ak ρ n) k as
    let s:=ct aB (cH ρ f) as r.1 r.2
    (gS s.ahead (.app (ak ρ n s.k f).1 s.args),(ak ρ n s.k f).2)
  | .case e x alts o=>
    let a:=ci (ak ρ n) k alts
    let b:=fP (ak ρ n) a.2 o
    (.case (ak ρ n b.2 e).1 x a.1 b.1,(ak ρ n b.2 e).2)
  | .letn bs b r=>
    let c:=ak ρ n k b
    let d:=bO (ak ρ n) c.2 bs
    (qn (ei n ρ bs b r) d.1 c.1 r,d.2)
theorem cA(f:Nat->ai->ai×Nat):∀(xs:List ai) (k:Nat) (x:ai),aZ f k (xs++ [x])=((aZ f k xs).1++ [(f (aZ f k xs).2 x).1],(f (aZ f k xs).2 x).2):=by
 intro zz
 induction zz with
 |nil=>
  intro k x
  exact rfl
 |cons a r ih=>
  intro k x
  show(_::(aZ f _ (r++ [x])).1,(aZ f _ (r++ [x])).2)=_
  rw[ih];rfl
theorem ir(f:Nat->ai->ai×Nat):∀(xs:List (Int×ai)) (k:Nat) (x:Int×ai),ci f k (xs++ [x])=((ci f k xs).1++ [(x.1,(f (ci f k xs).2 x.2).1)],(f (ci f k xs).2 x.2).2):=by
 intro zz
 induction zz with
 |nil=>
  intro k x
  exact rfl
 |cons a r ih=>
  intro k x
  show(_::(ci f _ (r++ [x])).1,(ci f _ (r++ [x])).2)=_
  rw[ih];rfl
theorem fy(f:Nat->ai->ai×Nat):∀(xs:List (Str×ai)) (k:Nat) (x:Str×ai),bO f k (xs++ [x])=((bO f k xs).1++ [(x.1,(f (bO f k xs).2 x.2).1)],(f (bO f k xs).2 x.2).2):=by
 intro zz
 induction zz with
 |nil=>
  intro k x
  exact rfl
 |cons a r ih=>
  intro k x
  show(_::(bO f _ (r++ [x])).1,(bO f _ (r++ [x])).2)=_
  rw[ih];rfl
theorem cR(f:Nat->ai->ai×Nat):∀(xs:List ai) (k:Nat),(aZ f k xs).1.length=xs.length:=fun xs=>by
 induction xs with
 |nil=>exact fun _=>rfl
 |cons a r ih=>exact fun k=>congrArg Nat.succ (ih _)
theorem eo(f:Nat->ai->ai×Nat):∀(xs:List (Str×ai)) (k:Nat),(bO f k xs).1.length=xs.length:=fun xs=>by
 induction xs with
 |nil=>exact fun _=>rfl
 |cons a r ih=>exact fun k=>congrArg Nat.succ (ih _)
theorem lI(f:Nat->ai->ai×Nat):∀(xs:List (Int×ai)) (k:Nat),(ci f k xs).1.length=xs.length:=fun xs=>by
 induction xs with
 |nil=>exact fun _=>rfl
 |cons a r ih=>exact fun k=>congrArg Nat.succ (ih _)
noncomputable def bQ:Nat->Nat
 |0=>0
 |n+1=>8*bQ n+8
theorem cI{f:Nat->ai->ai×Nat}{B:Nat}:∀(xs:List ai) (k:Nat),(∀a∈xs,∀k,k<=(f k a).2/\(f k a).2<=k+B)->k<=(aZ f k xs).2/\(aZ f k xs).2<=k+xs.length*B:=by
 intro zz
 induction zz with
 |nil=>
  intro k _
  exact⟨Nat.le_refl _,Nat.le_add_right _ _⟩
 |cons a r ih=>
  intro k h
  have h1:=h a List.mem_cons_self k
  have h2:=ih (f k a).2 fun x hx=>h x (List.mem_cons_of_mem _ hx)
  rw[List.length_cons,Nat.succ_mul]
  exact⟨Nat.le_trans h1.1 h2.1,by show(aZ f (f k a).2 r).2<=_;exact bC h2.2 h1.2⟩
theorem gt{f:Nat->ai->ai×Nat}{B:Nat}:∀(xs:List (Int×ai)) (k:Nat),(∀a∈xs,∀k,k<=(f k a.2).2/\(f k a.2).2<=k+B)->k<=(ci f k xs).2/\(ci f k xs).2<=k+xs.length*B:=by
 intro zz
 induction zz with
 |nil=>
  intro k _
  exact⟨Nat.le_refl _,Nat.le_add_right _ _⟩
 |cons a r ih=>
  intro k h
  have h1:=h a List.mem_cons_self k
  have h2:=ih (f k a.2).2 fun x hx=>h x (List.mem_cons_of_mem _ hx)
  rw[List.length_cons,Nat.succ_mul]
  exact⟨Nat.le_trans h1.1 h2.1,by show(ci f (f k a.2).2 r).2<=_;exact bC h2.2 h1.2⟩
theorem hY{f:Nat->ai->ai×Nat}{B:Nat}:∀(xs:List (Str×ai)) (k:Nat),(∀a∈xs,∀k,k<=(f k a.2).2/\(f k a.2).2<=k+B)->k<=(bO f k xs).2/\(bO f k xs).2<=k+xs.length*B:=by
 intro zz
 induction zz with
 |nil=>
  intro k _
  exact⟨Nat.le_refl _,Nat.le_add_right _ _⟩
 |cons a r ih=>
  intro k h
  have h1:=h a List.mem_cons_self k
  have h2:=ih (f k a.2).2 fun x hx=>h x (List.mem_cons_of_mem _ hx)
  rw[List.length_cons,Nat.succ_mul]
  exact⟨Nat.le_trans h1.1 h2.1,by show(bO f (f k a.2).2 r).2<=_;exact bC h2.2 h1.2⟩
theorem jL{nm:Nat->Str}{flags:List Bool}{as:List ai}{s:Ah}{i:Nat}{P:Ah->Prop}(h0:P s)(h1:∀a b,P (if de a=true then s else⟨s.args.set i (.var (nm (s.k+1))),s.ahead++ [(nm (s.k+1),b)],s.k+1⟩)):P (cw nm flags as s i):=by
 unfold cw
 generalize flags[i]? =x
 generalize as[i]? =y
 generalize s.args[i]? =z
 induction x with
 |none=>exact h0
 |some q=>induction q with
  |false=>exact h0
  |true=>induction y with
   |none=>exact h0
   |some a=>induction z with
    |none=>exact h0
    |some b=>exact h1 a b
theorem u8(nm:Nat->Str)(flags:List Bool)(as:List ai)(s:Ah)(i:Nat):s.k<=(cw nm flags as s i).k/\(cw nm flags as s i).k<=s.k+1/\(cw nm flags as s i).args.length=s.args.length:=by
 have h0:s.k<=s.k/\s.k<=s.k+1/\s.args.length=s.args.length:=⟨Nat.le_refl _,Nat.le_succ _,rfl⟩
 refine jL (P:=fun z=>s.k<=z.k/\z.k<=s.k+1/\z.args.length=s.args.length) h0 fun a b=>?_
 by_cases hd:de a=true
 ·rw[if_pos hd];exact h0
 ·rw[if_neg hd];exact⟨Nat.le_succ _,Nat.le_refl _,List.length_set⟩
theorem lJ(nm:Nat->Str)(flags:List Bool)(as:List ai):∀(is:List Nat) (s:Ah),s.k<=(is.foldl (cw nm flags as) s).k/\(is.foldl (cw nm flags as) s).k<=s.k+is.length/\(is.foldl (cw nm flags as) s).args.length=s.args.length:=by
 intro zz
 induction zz with
 |nil=>
  intro s
  exact⟨Nat.le_refl _,Nat.le_refl _,rfl⟩
 |cons i r ih=>
  intro s
  have h1:=u8 nm flags as s i
  have h2:=ih (cw nm flags as s i)
  rw[List.foldl_cons,List.length_cons]
  exact⟨by exact bC h1.1 h2.1,by exact bC h2.2.1 h1.2.1,by exact Nat.le_antisymm (bC (Nat.le_of_eq h2.2.2) (Nat.le_of_eq h1.2.2)) (bC (Nat.le_of_eq h1.2.2.symm) (Nat.le_of_eq h2.2.2.symm))⟩
theorem o5(nm:Nat->Str)(known:Option Sg)(as args:List ai)(k:Nat)(h:∀s,known=some s->s.flags.length<=4):k<=(ct nm known as args k).k/\(ct nm known as args k).k<=k+4/\(ct nm known as args k).args.length=args.length:=by
 unfold ct
 induction known with
 |none=>exact⟨Nat.le_refl _,by dsimp only;lia,rfl⟩
 |some s=>
  dsimp only
  split
  ·exact⟨Nat.le_refl _,by dsimp only;lia,rfl⟩
  ·split
   ·exact⟨Nat.le_refl _,by dsimp only;lia,rfl⟩
   ·have h1:=lJ nm s.flags as (List.range s.flags.length) ⟨args,[],k⟩
    have h2:=h s rfl
    rw[List.length_range]at h1
    exact⟨h1.1,by have:=h1.2.1;dsimp only at this;exact bC h1.2.1 h2,h1.2.2⟩
theorem lK{ρ:hU}(hρ:fV ρ)(f:ai):∀s,cH ρ f=some s->s.flags.length<=4:=by
 intro s hs
 induction f using ai.cs<;>first| (cases hs;done) |exact(hρ.2 _ (mem_of_lookup hs)).1
theorem eu{k M E X Y:Nat}(h1:k<=M/\M<=k+X)(h2:M<=E/\E<=M+Y):k<=E/\E<=k+(X+Y):=⟨Nat.le_trans h1.1 h2.1,Nat.le_trans h2.2 (Nat.le_trans (Nat.add_le_add_right h1.2 Y) (Nat.le_of_eq (Nat.add_assoc k X Y)))⟩
theorem jM{k E X Z:Nat}(h:k<=E/\E<=k+X)(hz:X<=Z):k<=E/\E<=k+Z:=⟨h.1,Nat.le_trans h.2 (Nat.add_le_add_left hz k)⟩
theorem o6{k E X N C c:Nat}(h:k<=E/\E<=k+X)(hk:k+C<=N)(hx:X+c<=C):E+c<=N:=Nat.le_trans (Nat.add_le_add_right h.2 c) (Nat.le_trans (Nat.le_of_eq (Nat.add_assoc k X c)) (Nat.le_trans (Nat.add_le_add_left hx k) hk))
theorem dB{ρ:hU}(hρ:fV ρ):∀(n:Nat) (t:ai),Wf n t->∀k,k<=(ak ρ n k t).2/\(ak ρ n k t).2<=k+bQ n:=by
 intro zz
 induction zz with
 |zero=>
  intro t h k
  exact h.elim
 |succ n ih=>
  intro t h k
  have hc:bQ (n+1)=8*bQ n+8:=rfl
  rw[hc]
  induction t using ai.cs with
  |var x=>exact⟨Nat.le_refl _,by show k<=_;lia⟩
  |lit i=>exact⟨Nat.le_refl _,by show k<=_;lia⟩
  |lam ps b=>
   have:=ih b h.2 k
   exact⟨this.1,by show(ak ρ n k b).2<=_;exact bK this.2⟩
  |con x as=>
   have h1:=cI (B:=bQ n) as k fun a ha=>ih a (h.2 a ha)
   have h2:as.length*bQ n<=4*bQ n:=Nat.mul_le_mul_right _ h.1
   exact⟨h1.1,by show(aZ (ak ρ n) k as).2<=_;exact bC h1.2 h2⟩
  |prim x as=>
   have h1:=cI (B:=bQ n) as k fun a ha=>ih a (h.2 a ha)
   have h2:as.length*bQ n<=4*bQ n:=Nat.mul_le_mul_right _ h.1
   exact⟨h1.1,by show(aZ (ak ρ n) k as).2<=_;exact bC h1.2 h2⟩
  |app f as=>
   have h1:=cI (B:=bQ n) as k fun a ha=>ih a (h.2.2 a ha)
   have h2:as.length*bQ n<=4*bQ n:=Nat.mul_le_mul_right _ h.2.1
   have h3:=o5 aB (cH ρ f) as (aZ (ak ρ n) k as).1 (aZ (ak ρ n) k as).2 (lK hρ f)
   have h4:=ih f h.1 (ct aB (cH ρ f) as (aZ (ak ρ n) k as).1 (aZ (ak ρ n) k as).2).k
   show k<=(ak ρ n (ct aB (cH ρ f) as (aZ (ak ρ n) k as).1 (aZ (ak ρ n) k as).2).k f).2/\(ak ρ n (ct aB (cH ρ f) as (aZ (ak ρ n) k as).1 (aZ (ak ρ n) k as).2).k f).2<=_
   exact jM (eu (eu h1 ⟨h3.1,h3.2.1⟩) h4) (by exact bK h2)
  |case e x alts o=>
   have h1:=gt (B:=bQ n) alts k fun a ha=>ih a.2 (h.2.2.1 a ha)
   have h2:alts.length*bQ n<=4*bQ n:=Nat.mul_le_mul_right _ h.2.1
   have h3:(ci (ak ρ n) k alts).2<=(fP (ak ρ n) (ci (ak ρ n) k alts).2 o).2/\(fP (ak ρ n) (ci (ak ρ n) k alts).2 o).2<=(ci (ak ρ n) k alts).2+bQ n:=by
    induction o with
    |none=>exact⟨Nat.le_refl _,Nat.le_add_right _ _⟩
    |some t=>exact ih t (h.2.2.2 t rfl) _
   have h4:=ih e h.1 (fP (ak ρ n) (ci (ak ρ n) k alts).2 o).2
   show k<=(ak ρ n (fP (ak ρ n) (ci (ak ρ n) k alts).2 o).2 e).2/\(ak ρ n (fP (ak ρ n) (ci (ak ρ n) k alts).2 o).2 e).2<=_
   exact jM (eu (eu h1 h3) h4) (by exact bK h2)
  |letn bs b r=>
   have h1:=ih b h.2.2.2.2 k
   have h2:=hY (B:=bQ n) bs (ak ρ n k b).2 fun a ha=>ih a.2 (h.2.2.2.1 a ha)
   have h3:bs.length*bQ n<=2*bQ n:=Nat.mul_le_mul_right _ h.1
   show k<=(bO (ak ρ n) (ak ρ n k b).2 bs).2/\(bO (ak ρ n) (ak ρ n k b).2 bs).2<=_
   exact jM (eu h1 h2) (by exact bK h3)
def lL(c:Cx)(n:Nat):Prop:=∀{V:St} {v ev sv frv:Value} {t:ai} {nd:Addr} {k:Nat} {Q:Value->St->Prop},Rp n V v t->Wf n t->fO V ev ay->IA V sv 557 [("fresh",frv)]->gp V frv nd k->k+bQ n<=50000000->
 (∀r V',Le [nd] V V'->Rp (3*n) V' r (ak ay n k t).1->gp V' frv nd (ak ay n k t).2->Q r V')->ab c (30*n+10) (.ref 539) [sv,v,ev] V Q
def ru(n:Nat)(V:St)(av:Value)(p:Int×ai):Prop:=∃ka na bv,IA V av 242 [("key",.ref ka),("names",.ref na),("body",bv)]/\V ka=some (.ro (.tup [.str "lit" 0,.str "int" 0,.int p.1 0]))/\V na=some (.ro (.list []))/\Rp n V bv p.2
theorem ru.mono{n:Nat}{V V':St}{av:Value}{p:Int×ai}(h:ru n V av p)(L:Ro V V'):ru n V' av p:=by obtain⟨ka,na,bv,g1,g2,g3,g4⟩:=h;exact⟨ka,na,bv,g1.mono L,L _ _ g2,L _ _ g3,g4.mono L⟩
theorem ru.up{n m:Nat}{V:St}{av:Value}{p:Int×ai}(h:ru n V av p)(hm:n<=m):ru m V av p:=by obtain⟨ka,na,bv,g1,g2,g3,g4⟩:=h;exact⟨ka,na,bv,g1,g2,g3,g4.up hm⟩
theorem gp.hand{V:St}{v:Value}{nd:Addr}{k:Nat}(h:gp V v nd k):handedIn v=true:=by obtain⟨_,_,_,h1,_⟩:=h;exact ql h1
theorem gp.ndSome{V:St}{v:Value}{nd:Addr}{k:Nat}(h:gp V v nd k):∃o,V nd=some o:=by obtain⟨_,_,_,_,_,h3⟩:=h;exact⟨_,h3⟩
theorem cJ{V:St}{v:Value}{nd a:Addr}{k:Nat}(h:gp V v nd k)(ha:V a=none):a∉ [nd]:=by
 refine dP h.ndSome fun o ho=>?_
 simp only[List.mem_singleton]
 rintro rfl;rw[ha]at ho;cases ho
theorem gp.fzs{V:St}{v:Value}{nd:Addr}{k:Nat}{as:List Addr}(h:gp V v nd k)(hn:nd∉as):gp (fzs V as) v nd k:=by
 refine nU h fun ad ae ne h1 h2 h3=>?_
 exact⟨ad,ae,ne,h1.mono (aD _ _),aD _ _ _ _ h2,by rw[gd _ hn];exact h3⟩
section
variable{c:Cx}{d n:Nat}{env:Env}{l:au}{V:St}{p pos:Pos}{Q:Value->St->Prop}{QB:Bool->St->Prop}{QF:Fl->au->St->Prop}{QL:au->St->Prop}{ns:List (Str×NameKind)}
theorem u9(KT:HK c)(ih:lL c n){v ev sv frv:Value}{e:ai}{x:Str}{alts:List (Int×ai)}{o:Option ai}{nd:Addr}{k:Nat}(h1:Rp (n+1) V v (.case e x alts o))(hw:Wf (n+1) (.case e x alts o))(h2:fO V ev ay)(h3:IA V sv 557 [("fresh",frv)])(h4:gp V frv nd k)
  (hk:k+bQ (n+1)<=50000000)
  (h:∀r V',Le [nd] V V'->Rp (3* (n+1)) V' r (ak ay (n+1) k (.case e x alts o)).1->gp V' frv nd (ak ay (n+1) k (.case e x alts o)).2->Q r V'):ab c (30*n+20) (.ref 544) [sv,v,ev] V Q:=by
 refine ab.frz (qZ (x0:="self") (x1:="expr") (x2:="env") KT ?_)
 intro env K
 try dsimp only at K
 refine rO h1 fun xv a avs ov i1 i2 i3 i4 i5=>?_
 have hc:bQ (n+1)=8*bQ n+8:=rfl
 nofun
 refine ao i1 KT (aK _) (bZ _) rfl rfl ?_
 refine⟨_,ax (af i3),fun cenv CK=>?_⟩
 let F:I4:=fun i acc l' V' G=>Le [nd] V V'->Lk l' "self" sv->Lk l' "env" ev->∀rs,acc= .l rs->PySem.Paired (ru (3*n) V') rs (ci (ak ay n) k (alts.take i)).1->gp V' frv nd (ci (ak ay n) k (alts.take i)).2->G
 refine aq avs F ?_ ?_ ?_ avs.length 0 (Nat.zero_add _)
  (by exact fun _ k=>k (.refl ..) (by rfl') (by rfl') ([]) rfl .nil h4)
 ·rintro i acc l' V' L - - - - - -
  exact aE (af (L.ro _ _ i3)) i
 ·rintro i y acc l' V' hy R hR L eK fZ rs rfl hrs hfr
  obtain⟨⟨ki,t⟩,ht,ka,na,bv,g1,g2,g3,g4⟩:=Paired.get i4 hy
  have hwt:=hw.2.2.1 _ (List.mem_of_getElem? ht)
  have hcn:=gt (f:=ak ay n) (B:=bQ n) (alts.take i) k fun a ha=>dB dA n a.2 (hw.2.2.1 a (List.mem_of_mem_take ha))
  have hcl:(alts.take i).length*bQ n<=4*bQ n:=Nat.mul_le_mul_right _ (by rw[List.length_take];have:=hw.2.1;lia)
  nofun
  refine ao (g1.mono L.ro) KT (bV _) (dq _) rfl rfl ?_
  nofun
  refine ao (g1.mono L.ro) KT (bV _) (dY _) rfl rfl ?_
  nofun
  refine dF (h3.mono L.ro) KT rfl (cF _) (b8 _) (cb _) ⟨bJ KT (fF _),?_⟩
  nofun
  refine ao (g1.mono L.ro) KT (bV _) (du _) rfl g4.hand ?_
  nofun
  refine ab.at (ih (g4.mono L.ro) hwt (h2.mono L.ro) (h3.mono L.ro) hfr (by exact kI (Nat.le_of_eq hc.symm) hk hcn.2 hcl) fun r V2 L2 hr hfr2=>?_) (by lia)
  nofun
  refine ab.at (oV (d:=0) KT fun w V3 L3 hw3=>?_) (by lia)
  have L':=L.trans (L2.trans L3.nil)
  have hrl:rs.length<=4:=by
   rw[hrs.length]
   rw[lI,List.length_take];have:=hw.2.1;lia
  refine⟨sz (by lia),(hR _ _ _ _ fun _ k=>k L' (dD (by kernel_rfl) eK) (dD (by kernel_rfl) fZ) (rs++ [w]) rfl ?_ ?_)⟩
  ·rw[am ht,ir]
   refine Paired.snoc' (Paired.imp (fun _ _ q=>(q.mono L2.ro).mono L3.ro) hrs) ⟨ka,na,r,hw3,(L2.trans L3.nil).ro _ _ (L.ro _ _ g2),(L2.trans L3.nil).ro _ _ (L.ro _ _ g3),hr.mono L3.ro⟩
  ·rw[am ht,ir]
   exact hfr2.keep L3
 ·rintro acc l' V' L eK fZ rs rfl hrs hfr
  rw[show alts.take avs.length=alts from List.take_of_length_le (by rw[i4.length];exact Nat.le_refl _)]at hrs hfr
  have hcn:=gt (f:=ak ay n) (B:=bQ n) alts k fun a ha=>dB dA n a.2 (hw.2.2.1 a ha)
  have hcl:alts.length*bQ n<=4*bQ n:=Nat.mul_le_mul_right _ hw.2.1
  intro la hla
  unfold Mine.gG
  have hla0:=L.none0 hla (cJ hfr hla)
  have L1:=L.new1 hla (o:= .list rs)
  have hfr1:=hfr.keep (Le.new (M:=[]) hla (o:= .list rs))
  have hrs1:PySem.Paired (ru (3*n) (V'.set la (.list rs))) rs (ci (ak ay n) k alts).1:=Paired.imp (fun _ _ q=>q.mono (Le.new (M:=[]) hla).ro) hrs
  have hnla:la∉ [nd]:=cJ hfr hla
  let F:I2:=fun l2 V2 G=>Le [nd] V V2->Le [nd] (V'.set la (.list rs)) V2->Lk l2 "self" sv->Lk l2 "expr" v->Lk l2 "env" ev->Lk l2 "alts" (.ref la)->∀ov',Lk l2 "other" ov'->(match(fP (ak ay n) (ci (ak ay n) k alts).2 o).1 with|none=>ov'= .none|some t=>Rp (3*n) V2 ov' t)->gp V2 frv nd (fP (ak ay n) (ci (ak ay n) k alts).2 o).2->G
  refine aC F ?_ ?_
  ·intro _ _
   nofun
   refine ao (i1.mono L1.ro) KT (aK _) (bg _) rfl (by cases o with|none=>rw[show ov= .none from i5];rfl|some t=>exact Rp.hand (n:=n) i5) ?_
   nofun
   refine gZ (by cases o with|none=>(rw[show ov= .none from i5];exact fun id q=>by cases q) |some t=>exact Rp.plain (n:=n) i5) ?_
   nofun
   induction o with
   |none=>
    rw[show ov= .none from i5,if_pos (show(Value.none==Value.none)=true from rfl)]
    nofun
    exact(fun _ k=>k L1 (.refl ..) (by rfl') (by rfl') (by rfl') (by rfl') _ (by rfl') rfl hfr1)
   |some t=>
    have g4:Rp n V ov t:=i5
    have hwt:=hw.2.2.2 t rfl
    rw[g4.notNone,if_neg (by decide)]
    nofun
    refine dF (h3.mono L1.ro) KT rfl (cF _) (b8 _) (cb _) ⟨bJ KT (fF _),?_⟩
    nofun
    refine ao (i1.mono L1.ro) KT (aK _) (bg _) rfl g4.hand ?_
    nofun
    refine ab.at (ih (g4.mono L1.ro) hwt (h2.mono L1.ro) (h3.mono L1.ro) hfr1 (by exact kI (Nat.le_of_eq hc.symm) hk hcn.2 hcl) fun r V2 L2 hr hfr2=>?_) (by lia)
    nofun
    exact(fun _ k=>k (L1.trans L2) L2 (by rfl') (by rfl') (by rfl') (by rfl') _ (by rfl') hr hfr2)
  ·rintro l2 V2 L2 L12 b1 b2 b3 b4 ov' b5 hov hfr2
   have hco:(ci (ak ay n) k alts).2<=(fP (ak ay n) (ci (ak ay n) k alts).2 o).2/\(fP (ak ay n) (ci (ak ay n) k alts).2 o).2<=(ci (ak ay n) k alts).2+bQ n:=by
    induction o with
    |none=>exact⟨Nat.le_refl _,Nat.le_add_right _ _⟩
    |some t=>exact dB dA n t (hw.2.2.2 t rfl) _
   nofun
   refine dF (h3.mono L2.ro) KT rfl (cF _) (b8 _) (cb _) ⟨bJ KT (fF _),?_⟩
   nofun
   refine ao (i1.mono L2.ro) KT (aK _) (cC _) rfl i2.hand ?_
   nofun
   refine ab.at (ih (i2.mono L2.ro) hw.1 (h2.mono L2.ro) (h3.mono L2.ro) hfr2 (o6 (eu hcn hco) hk (by exact bK hcl:_+bQ n<=8*bQ n+8)) fun r V3 L3 hr hfr3=>?_) (by lia)
   nofun
   refine ao (i1.mono (L2.trans L3).ro) KT (aK _) (dv _) rfl rfl ?_
   nofun
   refine ab.at (hN (d:=0) KT fun w V4 L4 hw4=>?_) (by lia)
   nofun
   have L34:=L3.trans L4.nil
   have LL:=L2.trans L34
   have hla4:V4 la=some (.list rs):=(L12.trans L34).at (aj ..) hnla
   refine⟨[la],h _ _ (aR LL (by simpa using .inl hla0)) ?_ ((hfr3.keep L4).fzs (by simpa [eq_comm]using hnla))⟩
   have R4:Ro (V'.set la (.list rs)) (fzs V4 [la]):=fun b q hb=>aD _ _ _ _ ((L12.trans L34).ro _ _ hb)
   have R3:Ro V3 (fzs V4 [la]):=fun b q hb=>aD _ _ _ _ (L4.ro _ _ hb)
   have R2:Ro V2 (fzs V4 [la]):=fun b q hb=>R3 _ _ (L3.ro _ _ hb)
   show Rp (3*n+2+1) _ w (.case _ x _ _)
   refine⟨r,la,rs,ov',hw4.mono (aD _ _),(hr.mono R3).up (by lia),aN List.mem_cons_self hla4 rfl,Paired.imp (fun _ _ q=>(q.mono R4).up (by lia)) hrs1,?_⟩
   revert hov
   cases (fP (ak ay n) (ci (ak ay n) k alts).2 o).1 with
   |none=>exact fun q=>q
   |some t=>exact fun q=>(Rp.mono R2 q).up (by lia)
end
section
variable{c:Cx}{d n:Nat}{env:Env}{l:au}{V:St}{p pos:Pos}{Q:Value->St->Prop}{QB:Bool->St->Prop}{QF:Fl->au->St->Prop}{QL:au->St->Prop}{ns:List (Str×NameKind)}
def gj(n:Nat)(V:St)(pv:Value)(p:Str×ai):Prop:=∃q tv,pv= .ref q/\V q=some (.ro (.tup [.str p.1 0,tv]))/\Rp n V tv p.2
theorem gj.mono{n:Nat}{V V':St}{pv:Value}{p:Str×ai}(h:gj n V pv p)(L:Ro V V'):gj n V' pv p:=by obtain⟨q,tv,h1,h2,h3⟩:=h;exact⟨q,tv,h1,L _ _ h2,h3.mono L⟩
theorem gj.up{n m:Nat}{V:St}{pv:Value}{p:Str×ai}(h:gj n V pv p)(hm:n<=m):gj m V pv p:=by obtain⟨q,tv,h1,h2,h3⟩:=h;exact⟨q,tv,h1,h2,h3.up hm⟩
theorem rx{ρ:hU}{bs:List (Str×ai)}{b:ai}{r:Bool}(h:¬bs.length=1):ei n ρ bs b r=false:=by
 unfold ei
 induction bs using bD with
 |nil=>rfl
 |cons p q=>induction q using bD with
  |nil=>exact absurd rfl h
  |cons p2 r2=>rfl
theorem ry{ρ:hU}{bs:List (Str×ai)}{b:ai}:ei n ρ bs b true=false:=by
 unfold ei
 induction bs using bD with
 |nil=>rfl
 |cons p q=>induction q using bD<;>rfl
theorem gM{ρ:hU}{x:Str}{t b:ai}{r:Bool}:ei n ρ [(x,t)] b r=(!r&& !de t&&(match a8 n ρ b with|none=>false|some k=>(k.lookup x).isSome)):=rfl
theorem xA(KT:HK c)(hn:n<=7)(ih:lL c n){v ev sv frv:Value}{bs:List (Str×ai)}{b:ai}{r:Bool}{nd:Addr}{k:Nat}(h1:Rp (n+1) V v (.letn bs b r))(hw:Wf (n+1) (.letn bs b r))(h2:fO V ev ay)(h3:IA V sv 557 [("fresh",frv)])(h4:gp V frv nd k)
  (hk:k+bQ (n+1)<=50000000)
  (h:∀r' V',Le [nd] V V'->Rp (3* (n+1)) V' r' (ak ay (n+1) k (.letn bs b r)).1->gp V' frv nd (ak ay (n+1) k (.letn bs b r)).2->Q r' V'):ab c (30*n+20) (.ref 549) [sv,v,ev] V Q:=by
 refine ab.frz (qZ (x0:="self") (x1:="expr") (x2:="env") KT ?_)
 intro env K
 try dsimp only at K
 have h1':=h1
 refine ku h1' fun a pvs bv i1 i2 i3 i4=>?_
 have hc:bQ (n+1)=8*bQ n+8:=rfl
 have hcb:=dB dA n b hw.2.2.2.2 k
 have hlen:=hw.1
 refine aG (br ?_ rfl rfl rfl)
 nofun
 refine ab.at (ji KT h1 h2 hw.2.1 (by lia) dA.1 fun iv V1 L1 hiv=>?_) (by lia)
 walk_at "me"
 try dsimp only
 have h4':=h4.keep L1
 let F:I2:=fun l2 V2 G=>Le [nd] V V2->Lk l2 "self" sv->Lk l2 "expr" v->Lk l2 "inner" iv->fO V2 iv ay->∀ow by',Lk l2 "own" ow->fO V2 ow ay->Lk l2 "body" by'->Rp (3*n) V2 by' (ak ay n k b).1->gp V2 frv nd (ak ay n k b).2->G
 refine aC F ?_ ?_
 ·intro _ _
  nofun
  refine dF (h3.mono L1.ro) KT rfl (cF _) (b8 _) (cb _) ⟨bJ KT (fF _),?_⟩
  nofun
  refine ao (i1.mono L1.ro) KT (aM _) (bI _) rfl i4.hand ?_
  nofun
  refine ab.at (ih (i4.mono L1.ro) hw.2.2.2.2 hiv (h3.mono L1.ro) h4' (by exact bC hk (Nat.le_of_eq hc.symm)) fun r1 V2 L2 hr1 hfr2=>?_) (by lia)
  nofun
  have L12:Le [nd] V V2:=L1.nil.trans L2
  refine ao (i1.mono L12.ro) KT (aM _) (bp _) rfl rfl ?_
  nofun
  induction r with
  |true=>
   nofun
   exact(fun _ k=>k L12 (by rfl') (by rfl') (by rfl') (hiv.mono L2.ro) _ _ (by rfl') (hiv.mono L2.ro) (by rfl') hr1 hfr2)
  |false=>
   nofun
   exact(fun _ k=>k L12 (by rfl') (by rfl') (by rfl') (hiv.mono L2.ro) _ _ (by rfl') (h2.mono L12.ro) (by rfl') hr1 hfr2)
 rintro l2 V2 L2 b1 b2 b3 hiv2 ow by' b4 how b5 hby hfr2
 let F:I2:=fun l3 V3 G=>Le [nd] V V3->Ro V2 V3->Lk l3 "expr" v->Lk l3 "inner" iv->Lk l3 "body" by'->∀lb rs,Lk l3 "binds" (.ref lb)->V lb=none->lb∉ [nd]->V3 lb=some (.list rs)->PySem.Paired (gj (3*n) V3) rs (bO (ak ay n) (ak ay n k b).2 bs).1->gp V3 frv nd (bO (ak ay n) (ak ay n k b).2 bs).2->G
 refine aC F ?_ ?_
 ·intro _ _
  nofun
  refine ao (i1.mono L2.ro) KT (aM _) (bf _) rfl rfl ?_
  refine⟨_,ax (af (L2.ro _ _ i2)),fun cenv CK=>?_⟩
  let F:I4:=fun i acc l' V' G=>Le [nd] V2 V'->Lk l' "self" sv->Lk l' "own" ow->∀rs,acc= .l rs->PySem.Paired (gj (3*n) V') rs (bO (ak ay n) (ak ay n k b).2 (bs.take i)).1->gp V' frv nd (bO (ak ay n) (ak ay n k b).2 (bs.take i)).2->G
  refine aq pvs F ?_ ?_ ?_ pvs.length 0 (Nat.zero_add _)
   (by exact fun _ k=>k (.refl ..) (by rfl') (by rfl') ([]) rfl .nil hfr2)
  ·rintro i acc l' V' L - - - - - -
   exact aE (af (L.ro _ _ (L2.ro _ _ i2))) i
  ·rintro i y acc l' V' hy R hR L eK fZ rs rfl hrs hfr
   refine be (Paired.get i3 hy) fun z0 ht zr=>?_;refine dl zr fun q tv z4 g1 g2=>?_;obtain⟨x,t⟩:=z0;subst z4
   have LL:=L2.trans L
   have hwt:=hw.2.2.2.1 _ (List.mem_of_getElem? ht)
   have hcn:=hY (f:=ak ay n) (B:=bQ n) (bs.take i) (ak ay n k b).2 fun a ha=>dB dA n a.2 (hw.2.2.2.1 a (List.mem_of_mem_take ha))
   have hcl:(bs.take i).length*bQ n<=2*bQ n:=Nat.mul_le_mul_right _ (by rw[List.length_take];lia)
   dsimp only at g1 g2
   refine dp (af (LL.ro _ _ g1)) rfl rfl ?_
   walk_at "goT"
   refine dF (h3.mono LL.ro) KT rfl (cF _) (b8 _) (cb _) ⟨bJ KT (fF _),?_⟩
   nofun
   refine ab.at (ih (g2.mono LL.ro) hwt (how.mono L.ro) (h3.mono LL.ro) hfr (o6 (eu hcb hcn) hk (by exact bK hcl:_+bQ n<=8*bQ n+8)) fun r1 V3 L3 hr1 hfr3=>?_) (by lia)
   nofun
   refine⟨bW rfl,fun w V4 L4 hw0 hw4=>?_⟩
   have L34:=L3.trans L4.nil
   have hrl:rs.length<=2:=by rw[hrs.length,eo,List.length_take];lia
   refine⟨sz (by lia),(hR _ _ _ _ fun _ k=>k (L.trans L34) (by rfl') (by rfl') (rs++ [.ref w]) rfl ?_ ?_)⟩
   ·rw[am ht,fy]
    exact Paired.snoc' (Paired.imp (fun _ _ q=>q.mono L34.ro) hrs) ⟨w,r1,rfl,hw4,hr1.mono L4.ro⟩
   ·rw[am ht,fy];exact hfr3.keep L4
  ·rintro acc l' V' L eK fZ rs rfl hrs hfr
   rw[show bs.take pvs.length=bs from List.take_of_length_le (by rw[i3.length];exact Nat.le_refl _)]at hrs hfr
   intro lb hlb
   unfold Mine.gG
   have LL:=L2.trans L
   nofun
   exact(fun _ k=>k (LL.new1 hlb) (fun b q hb=>(Le.new (M:=[]) hlb).ro _ _ (L.ro _ _ hb)) (by rfl') (by rfl') (by rfl') lb rs (by rfl') (LL.none0 hlb (cJ hfr hlb)) (cJ hfr hlb) (aj ..) (Paired.imp (fun _ _ q=>q.mono (Le.new (M:=[]) hlb).ro) hrs) (hfr.keep (.new hlb)))
 rintro l3 V3 L3 R23 d1 d2 d3 lb rs d4 hlb0 hlbn hlb hrs hfr3
 have hby3:=hby.mono R23
 have hiv3:=hiv2.mono R23
 have hrl:rs.length=bs.length:=by rw[hrs.length,eo]
 let F:I2:=fun l4 V4 G=>Le [nd] V3 V4->gp V4 frv nd (bO (ak ay n) (ak ay n k b).2 bs).2->V4 lb=some (.list rs)->Lk l4 "binds" (.ref lb)->Lk l4 "body" by'->Lk l4 "expr" v->ei n ay bs b r=false->G
 refine aC F ?_ ?_
 ·intro _ _
  nofun
  refine ao (i1.mono L3.ro) KT (aM _) (bp _) rfl rfl ?_
  nofun
  induction r with
  |true=>
   nofun
   exact(fun _ κ=>κ (.refl ..) hfr3 hlb d4 d3 d1 ry)
  |false=>
   nofun
   refine cg (.inl (af hlb)) (by exact bC (Nat.le_of_eq hrl) hlen) ?_
   nofun
   refine i9 ?_
   nofun
   rw[hrl]
   by_cases hb1:bs.length=1
   ·refine bu (by rw[hb1];rfl) ?_
    refine dP (List.length_eq_one_iff.mp hb1) fun z0 z1=>?_;obtain⟨x,t⟩:=z0;subst z1
    have i3':=i3
    cases i3' with|cons hx0 hr0=>
    cases hr0
    refine dl hx0 fun q tv z2 g1 g2=>?_;subst z2
    dsimp only at g1 g2
    have hwt:=hw.2.2.2.1 (x,t) List.mem_cons_self
    have hrs':=hrs
    have hmb:(bO (ak ay n) (ak ay n k b).2 [(x,t)]).1=[(x,(ak ay n (ak ay n k b).2 t).1)]:=rfl
    rw[hmb]at hrs'
    cases hrs' with|cons hy0 hs0=>
    cases hs0
    refine dl hy0 fun q2 tv2 z2 u1 u2=>?_;subst z2
    dsimp only at u1 u2
    nofun
    refine ao (i1.mono L3.ro) KT (aM _) (bf _) rfl rfl ?_
    nofun
    refine⟨aL (af (L3.ro _ _ i2)),aP (i:=0) (.inl (af (L3.ro _ _ i2))) rfl rfl (by decide) ?_⟩
    nofun
    refine⟨cP (af (L3.ro _ _ g1)),aP (i:=1) (.inr (.inr (af (L3.ro _ _ g1)))) rfl rfl (by decide) ?_⟩
    nofun
    refine ab.at (lH KT (g2.mono L3.ro) fun V4 L4=>?_) (by lia)
    nofun
    induction hdn:de t with
    |true=>
     nofun
     exact(fun _ κ=>κ L4.nil (hfr3.keep L4) (L4.at0 hlb) d4 d3 d1 (by rw[gM,hdn];rfl))
    |false=>
     nofun
     have L34:=L3.trans L4.nil
     refine ao (i1.mono L34.ro) KT (aM _) (bI _) rfl i4.hand ?_
     nofun
     refine ab.at (nw KT n (by lia) (i4.mono L34.ro) hw.2.2.2.2 (hiv3.mono L4.ro) dA fun rn V5 L5 hrn=>?_) (by lia)
     nofun
     have L45:=L4.trans L5
     refine ip hrn.plain hrn.none ?_
     nofun
     induction hnd:a8 n ay b with
     |none=>
      nofun
      exact(fun _ κ=>κ L45.nil (hfr3.keep L45) (L45.at0 hlb) (by rfl') (by rfl') (by rfl') (by rw[gM,hdn,hnd];rfl))
     |some kv=>
      rw[hnd]at hrn
      refine fM hrn fun na ne z2 hna=>?_;subst z2
      nofun
      refine⟨aL (af (L45.at0 hlb)),aP (i:=0) (.inl (af (L45.at0 hlb))) rfl rfl (by decide) ?_⟩
      nofun
      refine⟨cP (af (L45.ro _ _ u1)),aP (i:=0) (.inr (.inr (af (L45.ro _ _ u1)))) rfl rfl (by decide) ?_⟩
      nofun
      refine nb (af hna) ?_
      nofun
      induction hin:(kv.lookup x).isSome with
      |false=>
       nofun
       exact(fun _ κ=>κ L45.nil (hfr3.keep L45) (L45.at0 hlb) (by rfl') (by rfl') (by rfl') (by rw[gM,hdn,hnd];dsimp only;rw[hin];rfl))
      |true=>
       nofun
       refine⟨aL (af (L45.at0 hlb)),aP (i:=0) (.inl (af (L45.at0 hlb))) rfl rfl (by decide) ?_⟩
       nofun
       refine⟨cP (af (L45.ro _ _ u1)),aP (i:=1) (.inr (.inr (af (L45.ro _ _ u1)))) rfl rfl (by decide) ?_⟩
       nofun
       refine⟨aL (af (L45.at0 hlb)),aP (i:=0) (.inl (af (L45.at0 hlb))) rfl rfl (by decide) ?_⟩
       nofun
       refine⟨cP (af (L45.ro _ _ u1)),aP (i:=0) (.inr (.inr (af (L45.ro _ _ u1)))) rfl rfl (by decide) ?_⟩
       nofun
       refine⟨bW rfl,fun em hem=>?_⟩
       nofun
       have L6:=L45.new1 hem (o:= .list [])
       refine ab.at (hN (d:=0) KT fun w V7 L7 hw7=>?_) (by lia)
       nofun
       have L67:=L6.trans L7
       have LL:Le [nd] V V7:=L3.trans L67.nil
       have hem0:V em=none:=L3.none0 (L45.none0 hem nn) (cJ (hfr3.keep L45) hem)
       have R7:Ro V3 (fzs V7 [em]):=fun b q hb=>aD _ _ _ _ (L67.ro _ _ hb)
       refine⟨[em],h _ _ (aR LL (by simpa using .inl hem0)) ?_ ((hfr3.keep L67).fzs (by simpa [eq_comm]using cJ (hfr3.keep L45) hem))⟩
       have hto:ei n ay [(x,t)] b false=true:=by rw[gM,hdn,hnd];dsimp only;rw[hin];rfl
       show Rp (3*n+2+1) _ w (qn (ei n ay [(x,t)] b false) (bO (ak ay n) (ak ay n k b).2 [(x,t)]).1 (ak ay n k b).1 false)
       rw[hto,hmb]
       exact⟨tv2,em,[],by',hw7.mono (aD _ _),(u2.mono R7).up (by lia),aN List.mem_cons_self (L7.at0 (aj ..)) rfl,.nil,(hby3.mono R7).up (by lia)⟩
   ·refine bz (by simp;lia) ?_
    nofun
    exact fun _ κ=>κ (.refl ..) hfr3 hlb d4 d3 d1 (rx hb1)
 ·rintro l4 V4 L4 hfr4 hlb4 e1 e2 e3 hto
  have LL:=L3.trans L4
  nofun
  refine ao (i1.mono LL.ro) KT (aM _) (bp _) rfl rfl ?_
  nofun
  refine ab.at (rc (d:=0) KT fun w V5 L5 hw5=>?_) (by lia)
  nofun
  have hle:Le [nd] V V5:=LL.trans L5.nil
  refine⟨[lb],h _ _ (aR hle (by simpa using .inl hlb0)) ?_ ((hfr4.keep L5).fzs (by simpa [eq_comm]using hlbn))⟩
  have R5:Ro V3 (fzs V5 [lb]):=fun b q hb=>aD _ _ _ _ (L5.ro _ _ (L4.ro _ _ hb))
  show Rp (3*n+2+1) _ w (qn (ei n ay bs b r) (bO (ak ay n) (ak ay n k b).2 bs).1 (ak ay n k b).1 r)
  rw[hto]
  exact⟨lb,rs,by',hw5.mono (aD _ _),aN List.mem_cons_self (L5.at0 hlb4) rfl,Paired.imp (fun _ _ q=>(q.mono R5).up (by lia)) hrs,(hby3.mono R5).up (by lia)⟩
end
theorem Paired.set{α β:Type}{R:α->β->Prop}{xs:List α}{ys:List β}(p:PySem.Paired R xs ys):∀(i:Nat) {x:α} {y:β},R x y->PySem.Paired R (xs.set i x) (ys.set i y):=by
 induction p with
 |nil=>intro i x y h;exact .nil
 |cons a r ih=>
  intro i x y h
  induction i using dQ with
  |zero=>exact .cons h r
  |succ i=>exact .cons a (ih i h)
theorem Paired.get2{α β:Type}{R:α->β->Prop}{xs:List α}{ys:List β}(p:PySem.Paired R xs ys):∀{i:Nat} {y:β},ys[i]? =some y->∃x,xs[i]? =some x/\R x y:=by
 induction p with
 |nil=>intro i x h;simp at h
 |cons hx r ih=>
  intro i x h
  induction i using dQ with
  |zero=>simp at h;subst h;exact⟨_,rfl,hx⟩
  |succ i=>simp at h;exact ih h
theorem Paired.append{α β:Type}{R:α->β->Prop}{x1 x2:List α}{y1 y2:List β}(h:PySem.Paired R x1 y1)(g:PySem.Paired R x2 y2):PySem.Paired R (x1++x2) (y1++y2):=by
 induction h with
 |nil=>exact g
 |cons a _ ih=>exact .cons a ih
theorem Paired.reverse{α β:Type}{R:α->β->Prop}{xs:List α}{ys:List β}(h:PySem.Paired R xs ys):PySem.Paired R xs.reverse ys.reverse:=by
 induction h with
 |nil=>exact .nil
 |cons a _ ih=>rw[List.reverse_cons,List.reverse_cons];exact Paired.append ih (.cons a .nil)
noncomputable def jm(flags:List Bool)(as args:List ai)(k i:Nat):Ah:=(List.range i).foldl (cw aB flags as) ⟨args,[],k⟩
theorem fA{nm:Nat->Str}{flags:List Bool}{as:List ai}{S:Ah}{i:Nat}{fl:Bool}{t b:ai}(h1:flags[i]? =some fl)(h2:as[i]? =some t)(h3:S.args[i]? =some b):
  cw nm flags as S i=if fl=true then(if de t=true then S else⟨S.args.set i (.var (nm (S.k+1))),S.ahead++ [(nm (S.k+1),b)],S.k+1⟩)else S:=by
 unfold cw;rw[h1,h2,h3];induction fl<;>rfl
theorem nA(flags:List Bool)(as args:List ai)(k i:Nat):jm flags as args k (i+1)=cw aB flags as (jm flags as args k i) i:=by
 unfold jm;rw[List.range_succ,List.foldl_append];rfl
theorem Av(flags:List Bool)(as args:List ai)(k i:Nat):(jm flags as args k i).k<=k+i/\(jm flags as args k i).args.length=args.length:=by
 have:=lJ aB flags as (List.range i) ⟨args,[],k⟩
 rw[List.length_range]at this
 exact⟨this.2.1,this.2.2⟩
theorem lM(flags:List Bool)(as args:List ai)(k:Nat):∀i,(jm flags as args k i).ahead.length<=i:=by
 intro zz
 induction zz with
 |zero=>
  exact Nat.le_refl _
 |succ i ih=>
  rw[nA]
  have:=ih
  refine jL (P:=fun z=>z.ahead.length<=i+1) (Nat.le_succ_of_le this) fun a b=>?_
  by_cases hd:de a=true
  ·rw[if_pos hd];exact Nat.le_succ_of_le this
  ·rw[if_neg hd,List.length_append];exact Nat.succ_le_succ this
theorem Aw{f:ai}{s:Sg}(h:cH ay f=some s):s.flags.length<=2:=by
 induction f using ai.cs<;>first| (cases h;done) |skip
 rename_i x
 have hm:=mem_of_lookup h
 unfold ay at hm
 simp at hm
 rcases hm with⟨_,rfl⟩ | ⟨_,rfl⟩ | ⟨_,rfl⟩ | ⟨_,rfl⟩<;>decide
theorem vc(f:ai)(as args:List ai)(k:Nat):(ct aB (cH ay f) as args k).ahead.length<=2:=by
 unfold ct
 induction h:cH ay f with
 |none=>exact Nat.zero_le _
 |some s=>
  have h2:=Aw h
  dsimp only
  split
  ·exact Nat.zero_le _
  ·split
   ·exact Nat.zero_le _
   ·exact Nat.le_trans (lM s.flags as args k s.flags.length) h2
section
variable{c:Cx}{d n:Nat}{env:Env}{l:au}{V:St}{p pos:Pos}{Q:Value->St->Prop}{QB:Bool->St->Prop}{QF:Fl->au->St->Prop}{QL:au->St->Prop}{ns:List (Str×NameKind)}
theorem gp.touch{v:Value}{nd a:Addr}{k:Nat}{o o':cq}(h:gp V v nd k)(ha:V a=some o)(hn:o.isRo=false)(hne:a∉ [nd]):gp (V.set a o') v nd k:=by
 refine nU h fun ad ae ne h1 h2 h3=>?_
 have R:=cj (o':=o') ha hn
 exact⟨ad,ae,ne,h1.mono R,R _ _ h2,by rw[aA _ _ (by intro q;exact hne (by simp[q]))];exact h3⟩
theorem vd(KT:HK c)(ih:lL c n){v ev sv frv:Value}{f:ai}{as:List ai}{nd:Addr}{k:Nat}(h1:Rp (n+1) V v (.app f as))(hw:Wf (n+1) (.app f as))(h2:fO V ev ay)(h3:IA V sv 557 [("fresh",frv)])(h4:gp V frv nd k)
  (hk:k+bQ (n+1)<=50000000)
  (h:∀r' V',Le [nd] V V'->Rp (3* (n+1)) V' r' (ak ay (n+1) k (.app f as)).1->gp V' frv nd (ak ay (n+1) k (.app f as)).2->Q r' V'):ab c (30*n+20) (.ref 554) [sv,v,ev] V Q:=by
 refine ab.frz (qZ (x0:="self") (x1:="expr") (x2:="env") KT ?_)
 intro env K
 try dsimp only at K
 refine ku h1 fun fv a vs i1 i2 i3 i4=>?_
 have hc:bQ (n+1)=8*bQ n+8:=rfl
 have hla4:=hw.2.1
 have hcall:=cI (f:=ak ay n) (B:=bQ n) as k fun a ha=>dB dA n a (hw.2.2 a ha)
 have hcl:as.length*bQ n<=4*bQ n:=Nat.mul_le_mul_right _ hw.2.1
 let F:I2:=fun l1 V1 G=>Le [nd] V V1->Lk l1 "self" sv->Lk l1 "expr" v->Lk l1 "env" ev->∀la ha rs,Lk l1 "args" (.ref la)->Lk l1 "ahead" (.ref ha)->V la=none->V ha=none->la≠ha->la∉ [nd]->ha∉ [nd]->V1 la=some (.list rs)->V1 ha=some (.list [])->PySem.Paired (Rp (3*n) V1) rs (aZ (ak ay n) k as).1->gp V1 frv nd (aZ (ak ay n) k as).2->G
 refine aC F ?_ ?_
 ·intro R hR
  nofun
  refine ao i1 KT (aS _) (bH _) rfl rfl ?_
  refine⟨_,ax (af i3),fun cenv CK=>?_⟩
  let F:I4:=fun i acc l' V' G=>Le [nd] V V'->Lk l' "self" sv->Lk l' "env" ev->∀rs,acc= .l rs->PySem.Paired (Rp (3*n) V') rs (aZ (ak ay n) k (as.take i)).1->gp V' frv nd (aZ (ak ay n) k (as.take i)).2->G
  refine aq vs F ?_ ?_ ?_ vs.length 0 (Nat.zero_add _)
   (by exact fun _ k=>k (.refl ..) (by rfl') (by rfl') ([]) rfl .nil h4)
  ·rintro i acc l' V' L - - - - - -
   exact aE (af (L.ro _ _ i3)) i
  ·rintro i y acc l' V' hy R hR L eK fZ rs rfl hrs hfr
   refine be (Paired.get i4 hy) fun t ht g4=>?_
   have hwt:=hw.2.2 _ (List.mem_of_getElem? ht)
   have hcn:=cI (f:=ak ay n) (B:=bQ n) (as.take i) k fun a ha=>dB dA n a (hw.2.2 a (List.mem_of_mem_take ha))
   have hcl2:(as.take i).length*bQ n<=4*bQ n:=Nat.mul_le_mul_right _ (by rw[List.length_take];lia)
   nofun
   refine dF (h3.mono L.ro) KT rfl (cF _) (b8 _) (cb _) ⟨bJ KT (fF _),?_⟩
   nofun
   refine ab.at (ih (g4.mono L.ro) hwt (h2.mono L.ro) (h3.mono L.ro) hfr (by exact kI (Nat.le_of_eq hc.symm) hk hcn.2 hcl2) fun r V2 L2 hr hfr2=>?_) (by lia)
   refine⟨by rw[hrs.length,cR,List.length_take];exact sz (by lia),(hR _ _ _ _ fun _ k=>k (L.trans L2) (dD (by kernel_rfl) eK) (dD (by kernel_rfl) fZ) (rs++ [r]) rfl ?_ ?_)⟩
   ·rw[am ht,cA]
    exact Paired.snoc' (Paired.imp (fun _ _ q=>q.mono L2.ro) hrs) hr
   ·rw[am ht,cA];exact hfr2
  ·rintro acc l' V' L eK fZ rs rfl hrs hfr
   rw[show as.take vs.length=as from List.take_of_length_le (by rw[i4.length];exact Nat.le_refl _)]at hrs hfr
   intro la hla
   unfold Mine.gG
   nofun
   refine⟨Nat.zero_le _,fun ha hha=>?_⟩
   have hne:la≠ha:=Ne.symm (aO hha (aj ..))
   have L1:=L.new1 hla (o:= .list rs)
   have LA:Le [] V' ((V'.set la (.list rs)).set ha (.list [])):=(Le.new hla).new1 hha
   nofun
   exact(fun _ k=>k (L1.new1 hha) (by rfl') (by rfl') (by rfl') la ha rs (by rfl') (by rfl') (L.none0 hla (cJ hfr hla)) (L1.none0 hha (cJ (hfr.keep (.new hla)) hha)) hne (cJ hfr hla) (cJ (hfr.keep (.new hla)) hha) (by rw[aA _ _ hne,aj]) (aj ..) (Paired.imp (fun _ _ q=>q.mono LA.ro) hrs) (hfr.keep LA))
 rintro l1 V1 L1 b1 b2 b3 la ha rs b4 b5 hla0 hha0 hlaha hlan hhan hla hha hrs hfr
 have hml:(aZ (ak ay n) k as).1.length=as.length:=cR ..
 have hres:ak ay (n+1) k (.app f as)=(gS (ct aB (cH ay f) as (aZ (ak ay n) k as).1 (aZ (ak ay n) k as).2).ahead (.app (ak ay n (ct aB (cH ay f) as (aZ (ak ay n) k as).1 (aZ (ak ay n) k as).2).k f).1 (ct aB (cH ay f) as (aZ (ak ay n) k as).1 (aZ (ak ay n) k as).2).args),(ak ay n (ct aB (cH ay f) as (aZ (ak ay n) k as).1 (aZ (ak ay n) k as).2).k f).2):=rfl
 rw[hres]at h
 clear hres
 clear F
 generalize aZ (ak ay n) k as=M at*
 have hcnt:=o5 aB (cH ay f) as M.1 M.2 (lK dA f)
 have hal2:=vc f as M.1 M.2
 generalize hA:ct aB (cH ay f) as M.1 M.2=A at*
 let F:I2:=fun l2 V2 G=>V1=V2->Lk l2 "self" sv->Lk l2 "expr" v->Lk l2 "env" ev->Lk l2 "args" (.ref la)->Lk l2 "ahead" (.ref ha)->∀kv,Lk l2 "known" kv->At V1 kv (cH ay f)->G
 refine aC F ?_ ?_
 ·intro R hR
  nofun
  refine ao (i1.mono L1.ro) KT (aS _) (aU _) rfl i2.hand ?_
  nofun
  refine d9 KT (i2.mono L1.ro) rfl ?_
  nofun
  by_cases hv:(bh f==59)=true
  ·refine bu hv ?_
   induction f using ai.cs<;>first| (cases hv;done) |skip
   rename_i x
   have iv:=i2.var_ia
   refine nU h2 fun ea eep ekvs z3 e1 e2=>?_;subst z3
   nofun
   refine k8 (af (L1.ro _ _ e1)) ⟨trivial,?_⟩
   nofun
   refine ao (i1.mono L1.ro) KT (aS _) (aU _) rfl i2.hand ?_
   refine ao (iv.mono L1.ro) KT (dE _) (bT _) rfl rfl ?_
   nofun
   refine uc (af (L1.ro _ _ e1)) ?_
   nofun
   refine(fun _ k=>k rfl (by rfl') (by rfl') (by rfl') (by rfl') (by rfl') _ (by rfl') ?_)
   show At V1 _ (ay.lookup x)
   rcases uZ e2 x with⟨q1,q2⟩ | ⟨w,s,q1,q2,q3⟩
   ·rw[q1,q2];exact rfl
   ·rw[q1,q2];exact q3.mono L1.ro
  ·refine bz hv ?_
   nofun
   refine(fun _ k=>k rfl (by rfl') (by rfl') (by rfl') (by rfl') (by rfl') _ (by rfl') ?_)
   induction f using ai.cs<;>first|exact rfl| (exact absurd rfl hv)
 rintro l2 V2 rfl d1 d2 d3 d4 d5 kv d6 hkn
 let F:I2:=fun l3 V3 G=>Le [nd] V V3->Lk l3 "self" sv->Lk l3 "expr" v->Lk l3 "env" ev->Lk l3 "args" (.ref la)->Lk l3 "ahead" (.ref ha)->∀rs3 hs3,V3 la=some (.list rs3)->V3 ha=some (.list hs3)->PySem.Paired (Rp (3*n) V3) rs3 A.args->PySem.Paired (gj (3*n) V3) hs3 A.ahead->gp V3 frv nd A.k->G
 refine aC F ?_ ?_
 ·intro R hR
  have stay:A=⟨M.1,[],M.2⟩->re F l2 V1:=fun e=>by
   exact fun _ κ=>κ L1 d1 d2 d3 d4 d5 rs [] hla hha (by rw[e];exact hrs) (by rw[e];exact .nil) (by rw[e];exact hfr)
  have hrl:rs.length=as.length:=by rw[hrs.length,hml]
  nofun
  refine ip hkn.plain hkn.none ?_
  nofun
  have hkl:=lK dA f
  induction hkk:cH ay f with
  |none=>
   nofun
   exact stay (by rw[←hA,hkk];rfl)
  |some s=>
   rw[hkk]at hkn
   have hf4:=hkl s hkk
   nofun
   refine nU hkn fun fa fr fe g1 g2 g3=>?_
   nofun
   refine ao g1 KT (cD _) (dJ _) rfl rfl ?_
   nofun
   induction hdv:s.div with
   |true=>
    nofun
    exact stay (by rw[←hA,hkk];unfold ct;dsimp only;rw[hdv,if_pos rfl])
   |false=>
    nofun
    refine cg (.inl (af hla)) (by exact bC (Nat.le_of_eq hrl) hla4) ?_
    nofun
    refine ao g1 KT (cD _) (cV _) rfl rfl ?_
    nofun
    refine cg (.inl (af g2)) (by rw[List.length_map];lia) ?_
    refine t8 ?_
    nofun
    rw[List.length_map,hrl]
    by_cases hge:as.length<s.flags.length
    ·refine bz (by simp;lia) ?_
     nofun
     exact stay (by rw[←hA,hkk];unfold ct;dsimp only;rw[hdv,if_neg (by decide),if_pos (by rw[hml];exact hge)])
    ·refine bu (by simp;exact bK (Nat.le_of_not_lt hge)) ?_
     nofun
     refine ao g1 KT (cD _) (cV _) rfl rfl ?_
     nofun
     refine cg (.inl (af g2)) (by rw[List.length_map];lia) ?_
     nofun
     refine eH fun ra hra=>?_
     rw[List.length_map]
     have hah:A=jm s.flags as M.1 M.2 s.flags.length:=by
      rw[←hA,hkk];unfold ct;dsimp only;rw[hdv,if_neg (by decide),if_neg (by rw[hml];exact hge)];rfl
     have hrla:la≠ra:=Ne.symm (aO hra hla)
     have hrha:ha≠ra:=Ne.symm (aO hra hha)
     have LR:Le [] V1 (V1.set ra (.range (s.flags.length:Nat))):= .new hra
     refine⟨_,dh (af (aj ..)) (by lia),?_⟩
     let F:I3:=fun i l3 V3 G=>Le [nd] V V3->Ro V1 V3->Lk l3 "self" sv->Lk l3 "expr" v->Lk l3 "env" ev->Lk l3 "args" (.ref la)->Lk l3 "ahead" (.ref ha)->Lk l3 "known" kv->∀rs3 hs3,V3 la=some (.list rs3)->V3 ha=some (.list hs3)->PySem.Paired (Rp (3*n) V3) rs3 (jm s.flags as M.1 M.2 i).args->PySem.Paired (gj (3*n) V3) hs3 (jm s.flags as M.1 M.2 i).ahead->gp V3 frv nd (jm s.flags as M.1 M.2 i).k->G
     refine cW ((List.range s.flags.length).map fun(j:Nat)=>Value.int (j:Int) 0) F ?_ ?_ ?_ s.flags.length 0 (by simp) (by exact fun _ κ=>κ (L1.trans LR.nil) LR.ro d1 d2 d3 d4 d5 d6 rs [] (by rw[aA _ _ hrla];exact hla) (by rw[aA _ _ hrha];exact hha) (Paired.imp (fun _ _ q=>q.mono LR.ro) hrs) .nil (hfr.keep LR))
     ·rintro i l3 V3 _ _ _ _ _ _ _ _ _ _ _ _ _ _ _
      exact dH _ _
     ·rintro i y l3 V3 hy R hR L3 R3 c1 c2 c3 c4 c5 c6 rs3 hs3 hla3 hha3 hrs3 hhs3 hfr3
      rw[List.getElem?_map,Option.map_eq_some_iff]at hy
      refine be hy fun j hj z2=>?_;subst z2
      obtain⟨hlt,he⟩:=List.getElem?_eq_some_iff.mp hj
      rw[List.getElem_range]at he
      subst he
      rw[List.length_range]at hlt
      obtain⟨fl,hfl⟩:∃fl,s.flags[i]? =some fl:=⟨_,List.getElem?_eq_getElem hlt⟩
      have hilt:i<as.length:=by exact bC hlt (Nat.le_of_not_lt hge)
      obtain⟨t,hat⟩:∃t,as[i]? =some t:=⟨_,List.getElem?_eq_getElem hilt⟩
      have hkk2:=Av s.flags as M.1 M.2 i
      have hal:=hkk2.2
      rw[hml]at hal
      obtain⟨bt,hab⟩:∃bt,(jm s.flags as M.1 M.2 i).args[i]? =some bt:=⟨_,List.getElem?_eq_getElem (by exact bC hilt (Nat.le_of_eq hal.symm))⟩
      have hst:jm s.flags as M.1 M.2 (i+1)=cw aB s.flags as (jm s.flags as M.1 M.2 i) i:=nA _ _ _ _ _
      generalize hS:jm s.flags as M.1 M.2 i=S at hrs3 hhs3 hfr3 hab hst hkk2 hal
      have hahl:=lM s.flags as M.1 M.2 i
      rw[hS]at hahl
      rw[fA hfl hat hab]at hst
      refine be (Paired.get2 i4 hat) fun xv hxv hxr=>?_
      refine be (Paired.get2 hrs3 hab) fun bv hbv hbr=>?_
      nofun
      refine ao (g1.mono R3) KT (cD _) (cV _) rfl rfl ?_
      nofun
      refine⟨aL (af (R3 _ _ g2)),aP (i:=i) (.inl (af (R3 _ _ g2))) rfl (by rw[List.getElem?_map,hfl];rfl) (by lia) ?_⟩
      nofun
      induction fl with
      |false=>
       rw[if_neg (by decide)]at hst
       nofun
       exact(fun _ κ=>κ L3 R3 (by rfl') (by rfl') (by rfl') (by rfl') (by rfl') (by rfl') rs3 hs3 hla3 hha3 (by rw[hst];exact hrs3) (by rw[hst];exact hhs3) (by rw[hst];exact hfr3))
      |true=>
       rw[if_pos rfl]at hst
       nofun
       refine ao (i1.mono L3.ro) KT (aS _) (bH _) rfl rfl ?_
       nofun
       refine⟨aL (af (L3.ro _ _ i3)),aP (i:=i) (.inl (af (L3.ro _ _ i3))) rfl hxv (by lia) ?_⟩
       nofun
       refine ab.at (lH KT (hxr.mono L3.ro) fun V4 L4=>?_) (by lia)
       nofun
       have L34:=L3.trans L4.nil
       induction hdn:de t with
       |true=>
        rw[hdn,if_pos rfl]at hst
        nofun
        exact(fun _ κ=>κ L34 (fun b q hb=>L4.ro _ _ (R3 _ _ hb)) (by rfl') (by rfl') (by rfl') (by rfl') (by rfl') (by rfl') rs3 hs3 (L4.at0 hla3) (L4.at0 hha3) (by rw[hst];exact Paired.imp (fun _ _ q=>q.mono L4.ro) hrs3) (by rw[hst];exact Paired.imp (fun _ _ q=>q.mono L4.ro) hhs3) (by rw[hst];exact hfr3.keep L4))
       |false=>
        rw[hdn,if_neg (by decide)]at hst
        nofun
        have hfr4:=hfr3.keep L4
        refine ao (h3.mono L34.ro) KT (cF _) (jf _) rfl hfr4.hand ?_
        refine nU (id hfr4) fun ad ae ne' j1 j2 j3=>?_
        refine dF j1 KT rfl (fm _) (p8 _) (p9 _) ⟨bJ KT (zu _),?_⟩
        nofun
        refine ab.at (xz KT (by lia) hfr4 fun V5 L5 hfr5=>?_) (by lia)
        nofun
        have hha5:=L5.at (L4.at0 hha3) hhan
        have hla5:=L5.at (L4.at0 hla3) hlan
        refine dT hha5 ⟨trivial,?_⟩
        refine eF rfl (oX ?_)
        nofun
        refine⟨aL (af hla5),aP (i:=i) (.inl (af hla5)) rfl hbv (by lia) ?_⟩
        nofun
        refine⟨bW rfl,fun w V6 L6 hw0 hw6=>?_⟩
        nofun
        have hha6:=L6.at0 hha5
        have hla6:=L6.at0 hla5
        refine dU hha6 (by rw[hhs3.length,sizeLine_eq];exact gi hahl hlt hf4) ?_
        nofun
        have R6:Ro V6 (V6.set ha (.list (hs3++ [.ref w]))):=cj hha6 rfl
        refine ab.at (iJ (d:=0) KT fun vv V7 L7 hv7=>?_) (by lia)
        nofun
        have hla7:V7 la=some (.list rs3):=L7.at0 (by rw[aA _ _ hlaha];exact hla6)
        have hrs3l:rs3.length=as.length:=by rw[hrs3.length];exact hal
        refine kB (i:=i) hla7 rfl (by exact bC hilt (Nat.le_of_eq hrs3l.symm)) (by exact bC (Nat.le_of_eq hrs3l) hla4) ?_
        nofun
        have R7:Ro V7 (V7.set la (.list (rs3.set i vv))):=cj hla7 rfl
        have LA:Le [nd] V V6:=(L34.trans L5).trans L6.nil
        have LB:Le [nd] V (V6.set ha (.list (hs3++ [.ref w]))):=LA.touch hha0 hha6 rfl
        have LC:Le [nd] V V7:=LB.trans L7.nil
        have R36:Ro V3 V6:=fun b q hb=>L6.ro _ _ (L5.ro _ _ (L4.ro _ _ hb))
        have RR:Ro V6 (V7.set la (.list (rs3.set i vv))):=fun b q hb=>R7 _ _ (L7.ro _ _ (R6 _ _ hb))
        have R38:Ro V3 (V7.set la (.list (rs3.set i vv))):=fun b q hb=>RR _ _ (R36 _ _ hb)
        have hn1:1<=3*n:=by
         induction n using dQ with
         |zero=>exact hxr.elim
         |succ m=>lia
        have hvR:Rp (3*n) V7 vv (.var (aB (S.k+1))):=Rp.up (n:=1) (show Rp 1 V7 vv (.var (aB (S.k+1)))from hv7) hn1
        nofun
        refine(fun _ κ=>κ (LC.touch hla0 hla7 rfl) (fun b q hb=>R38 _ _ (R3 _ _ hb)) (by rfl') (by rfl') (by rfl') (by rfl') (by rfl') (by rfl') (rs3.set i vv) (hs3++ [.ref w]) (aj ..) (?_) (?_) (?_) (?_))
        ·rw[aA _ _ (Ne.symm hlaha)];exact L7.at0 (aj ..)
        ·rw[hst];exact Paired.set (Paired.imp (fun _ _ q=>q.mono R38) hrs3) i (hvR.mono R7)
        ·rw[hst];exact Paired.snoc' (Paired.imp (fun _ _ q=>q.mono R38) hhs3) ⟨w,bv,rfl,RR _ _ hw6,hbr.mono R38⟩
        ·rw[hst];exact(((hfr5.keep L6).touch hha6 rfl hhan).keep L7).touch hla7 rfl hlan
     ·rintro l3 V3 L3 R3 c1 c2 c3 c4 c5 c6 rs3 hs3 hla3 hha3 hrs3 hhs3 hfr3
      have e:((List.range s.flags.length).map fun(j:Nat)=>Value.int (j:Int) 0).length=s.flags.length:=by simp
      rw[e]at hrs3 hhs3 hfr3
      nofun
      exact fun _ κ=>κ L3 c1 c2 c3 c4 c5 rs3 hs3 hla3 hha3 (by rw[hah];exact hrs3) (by rw[hah];exact hhs3) (by rw[hah];exact hfr3)
 rintro l3 V3 L3 c1 c2 c3 c4 c5 rs3 hs3 hla3 hha3 hrs3 hhs3 hfr3
 refine aG (br (E.frz ?_) rfl rfl rfl)
 nofun
 refine dF (h3.mono L3.ro) KT rfl (cF _) (b8 _) (cb _) ⟨bJ KT (fF _),?_⟩
 nofun
 refine ao (i1.mono L3.ro) KT (aS _) (aU _) rfl i2.hand ?_
 nofun
 refine ab.at (ih (i2.mono L3.ro) hw.1 (h2.mono L3.ro) (h3.mono L3.ro) hfr3 (o6 (eu hcall ⟨hcnt.1,hcnt.2.1⟩) hk (by exact bK hcl:_+bQ n<=8*bQ n+8)) fun r4 V4 L4 hr4 hfr4=>?_) (by lia)
 nofun
 refine ab.at (lz (d:=0) KT fun r5 V5 L5 hr5=>?_) (by lia)
 refine⟨[la],?_⟩
 have hla5:V5 la=some (.list rs3):=L5.at0 (L4.at hla3 hlan)
 have hha5:(fzs V5 [la]) ha=some (.list hs3):=by rw[gd _ (by simpa [eq_comm]using hlaha)];exact L5.at0 (L4.at hha3 hhan)
 have L06:Le [nd] V (fzs V5 [la]):=aR ((L3.trans L4).trans L5.nil) (by simpa using .inl hla0)
 have R36:Ro V3 (fzs V5 [la]):=fun b q hb=>aD _ _ _ _ (L5.ro _ _ (L4.ro _ _ hb))
 have R46:Ro V4 (fzs V5 [la]):=fun b q hb=>aD _ _ _ _ (L5.ro _ _ hb)
 have hfr6:gp (fzs V5 [la]) frv nd (ak ay n A.k f).2:=(hfr4.keep L5).fzs (by simpa [eq_comm]using hlan)
 have happ:Rp (3*n+1) (fzs V5 [la]) r5 (.app (ak ay n A.k f).1 A.args):=
  ⟨r4,la,rs3,hr5.mono (aD _ _),hr4.mono R46,aN List.mem_cons_self hla5 rfl,Paired.imp (fun _ _ q=>q.mono R36) hrs3⟩
 have hhr:PySem.Paired (gj (3*n) (fzs V5 [la])) hs3.reverse A.ahead.reverse:=Paired.reverse (Paired.imp (fun _ _ q=>q.mono R36) hhs3)
 have hhl:hs3.length<=2:=by rw[hhs3.length];exact hal2
 nofun
 rotate_left 2
 nofun
 refine uS ?_
 refine⟨rfl,rfl,af hha5,sz (by lia),fun rb hrb=>?_⟩
 have L6:Le [] (fzs V5 [la]) ((fzs V5 [la]).set rb (.list hs3.reverse)):= .new hrb
 refine⟨_,ax (af (aj ..)),?_⟩
 generalize fzs V5 [la]=V6 at*
 let F:I3:=fun i l4 V7 G=>Le [nd] V V7->∀fdv,Lk l4 "found" fdv->Rp (3*n+1+i) V7 fdv ((A.ahead.reverse.take i).foldl (fun f p=> .case p.2 p.1 [] (some f)) (.app (ak ay n A.k f).1 A.args))->gp V7 frv nd (ak ay n A.k f).2->V7 rb=some (.list hs3.reverse)->PySem.Paired (gj (3*n) V7) hs3.reverse A.ahead.reverse->G
 refine cW hs3.reverse F ?_ ?_ ?_ hs3.reverse.length 0 (Nat.zero_add _)
  (by exact fun _ k=>k (L06.trans L6.nil) r5 (by rfl') (happ.mono L6.ro) (hfr6.keep L6) (aj ..) (Paired.imp (fun _ _ q=>q.mono L6.ro) hhr))
 ·rintro i l4 V7 L7 fdv u1 u2 u3 u4 u5
  exact aE (af u4) i
 ·rintro i y l4 V7 hy _ _ L7 fdv u1 u2 u3 u4 u5
  refine be (Paired.get u5 hy) fun z0 ht zr=>?_;refine dl zr fun q tv z4 g1 g2=>?_;obtain⟨x,t⟩:=z0;subst z4
  dsimp only at g1 g2
  refine iY (af g1) rfl rfl ?_
  iterate 5 walk_at "me"
  refine aG (br (E.frz ?_) rfl rfl rfl)
  nofun
  refine⟨bW rfl,fun em hem=>?_⟩
  nofun
  have L8:Le [] V7 (V7.set em (.list [])):= .new hem
  refine ab.at (hN (d:=0) KT fun w V9 L9 hw9=>?_) (by lia)
  have L89:=L8.trans L9
  have hem0:em∉ [nd]:=cJ u3 hem
  refine⟨[em],?_⟩
  nofun
  have RR:Ro V7 (fzs V9 [em]):=fun b q hb=>aD _ _ _ _ (L89.ro _ _ hb)
  have hrbem:rb≠em:=Ne.symm (aO hem u4)
  refine(fun _ k=>k (aR (L7.trans L89.nil) (by simpa using .inl (L7.none0 hem hem0))) w (by rfl') ?_ ((u3.keep L89).fzs (by simpa [eq_comm]using hem0)) ?_ (Paired.imp (fun _ _ q=>q.mono RR) u5))
  ·rw[bw ht]
   show Rp (3*n+1+i+1) _ w (.case t x [] (some _))
   exact⟨tv,em,[],fdv,hw9.mono (aD _ _),(g2.mono RR).up (by lia),aN List.mem_cons_self (L9.at0 (aj ..)) rfl,.nil,u2.mono RR⟩
  ·rw[gd _ (by simpa using hrbem)];exact L89.at0 u4
 ·rintro l4 V7 L7 fdv u1 u2 u3 u4 u5
  rw[show A.ahead.reverse.take hs3.reverse.length=A.ahead.reverse from List.take_of_length_le (by rw[u5.length];exact Nat.le_refl _)]at u2
  nofun
  refine⟨[],h _ _ L7 (u2.up (by rw[List.length_reverse];lia)) u3⟩
end
section
variable{c:Cx}{d n:Nat}{env:Env}{l:au}{V:St}{p pos:Pos}{Q:Value->St->Prop}{QB:Bool->St->Prop}{QF:Fl->au->St->Prop}{QL:au->St->Prop}{ns:List (Str×NameKind)}
theorem vf(KT:HK c)(n:Nat)(hn:n<=8):lL c n:=by
 induction n with
 |zero=>intro V v ev sv frv t nd k Q h1;exact h1.elim
 |succ n ihn=>
  have ih:lL c n:=ihn (by lia)
  intro V v ev sv frv t nd k Q h1 hw h2 h3 h4 hk h
  refine ab.deeper (d:=30*n+39+1) ?_ (by lia)
  refine ab.frz (qZ (x0:="self") (x1:="expr") (x2:="env") KT ?_)
  intro env K
  try dsimp only at K
  have hc:bQ (n+1)=8*bQ n+8:=rfl
  have h31:3* (n+1)=3*n+2+1:=by lia
  let F:I2:=fun l1 V1 G=>Le [] V V1->Lk l1 "self" sv->Lk l1 "expr" v->Lk l1 "env" ev->(bh t≠59/\bh t≠101)->G
  refine aC F ?_ ?_
  ·intro _ _
   nofun
   refine⟨bW rfl,fun tp htp=>?_⟩
   nofun
   have L1:Le [] V (V.set tp (.tup [.ref 59,.ref 101])):= .new htp
   refine oU (Ds:=[59,101]) KT (h1.mono L1.ro) (af (aj ..)) rfl ?_
   nofun
   by_cases hcc:([59,101].any (bh t== ·))=true
   ·refine bu hcc ?_
    nofun
    refine⟨[],h _ _ L1.nil ?_ ?_⟩
    ·induction t using ai.cs<;>first| (cases hcc;done) |exact(h1.mono L1.ro).up (by lia)
    ·induction t using ai.cs<;>first| (cases hcc;done) |exact h4.keep L1
   ·refine bz hcc ?_
    nofun
    exact fun _ κ=>κ L1 (by rfl') (by rfl') (by rfl') (by simpa using hcc)
  rintro l1 V1 L1 b1 b2 b3 hc1
  have h1':=h1.mono L1.ro
  have h2':=h2.mono L1.ro
  have h3':=h3.mono L1.ro
  have h4':=h4.keep L1
  nofun
  refine d9 KT h1' rfl ?_
  nofun
  by_cases hl:(bh t==183)=true
  ·refine bu hl ?_
   induction t using ai.cs<;>first| (cases hl;done) |skip
   rename_i ps b
   refine dl (id h1') fun a bv i1 i2 i3=>?_
   nofun
   refine ao i1 KT (bP _) (bB _) rfl rfl ?_
   nofun
   refine dF h3' KT rfl (cF _) (b8 _) (cb _) ⟨bJ KT (fF _),?_⟩
   nofun
   refine ao i1 KT (bP _) (cB _) rfl i3.hand ?_
   nofun
   refine ab.at (ih i3 hw.2 h2' h3' h4' (by exact bC hk (Nat.le_of_eq hc.symm)) fun r V2 L2 hr hfr2=>?_) (by lia)
   nofun
   refine ab.at (iO (d:=0) KT fun w V3 L3 hw3=>?_) (by lia)
   nofun
   have LL:Le [nd] V1 V3:=L2.trans L3.nil
   refine⟨[],h _ _ (L1.nil.trans LL) ?_ (hfr2.keep L3)⟩
   rw[h31]
   exact⟨a,r,hw3,LL.ro _ _ i2,(hr.mono L3.ro).up (by lia)⟩
  refine bz hl ?_
  nofun
  refine d9 KT h1' rfl ?_
  nofun
  by_cases hcn:(bh t==322)=true
  ·refine bu hcn ?_
   induction t using ai.cs<;>first| (cases hcn;done) |skip
   rename_i x as
   refine dl (id h1') fun a vs i1 i2 i3=>?_
   have hla4:=hw.1
   nofun
   refine ao i1 KT (dk _) (dN _) rfl rfl ?_
   nofun
   refine ao i1 KT (dk _) (eM _) rfl rfl ?_
   refine⟨_,ax (af i2),fun cenv CK=>?_⟩
   let F:I4:=fun i acc l' V' G=>Le [nd] V1 V'->Lk l' "self" sv->Lk l' "env" ev->∀rs,acc= .l rs->PySem.Paired (Rp (3*n) V') rs (aZ (ak ay n) k (as.take i)).1->gp V' frv nd (aZ (ak ay n) k (as.take i)).2->G
   refine aq vs F ?_ ?_ ?_ vs.length 0 (Nat.zero_add _)
    (by exact fun _ k=>k (.refl ..) (by rfl') (by rfl') ([]) rfl .nil h4')
   ·rintro i acc l' V' L - - - - - -
    exact aE (af (L.ro _ _ i2)) i
   ·rintro i y acc l' V' hy R hR L eK fZ rs rfl hrs hfr
    refine be (Paired.get i3 hy) fun t ht g4=>?_
    have hwt:=hw.2 _ (List.mem_of_getElem? ht)
    have hcn2:=cI (f:=ak ay n) (B:=bQ n) (as.take i) k fun a ha=>dB dA n a (hw.2 a (List.mem_of_mem_take ha))
    have hcl2:(as.take i).length*bQ n<=4*bQ n:=Nat.mul_le_mul_right _ (by rw[List.length_take];lia)
    nofun
    refine dF (h3'.mono L.ro) KT rfl (cF _) (b8 _) (cb _) ⟨bJ KT (fF _),?_⟩
    nofun
    refine ab.at (ih (g4.mono L.ro) hwt (h2'.mono L.ro) (h3'.mono L.ro) hfr (by exact kI (Nat.le_of_eq hc.symm) hk hcn2.2 hcl2) fun r V2 L2 hr hfr2=>?_) (by lia)
    refine⟨by rw[hrs.length,cR,List.length_take];exact sz (by lia),(hR _ _ _ _ fun _ k=>k (L.trans L2) (dD (by kernel_rfl) eK) (dD (by kernel_rfl) fZ) (rs++ [r]) rfl ?_ ?_)⟩
    ·rw[am ht,cA]
     exact Paired.snoc' (Paired.imp (fun _ _ q=>q.mono L2.ro) hrs) hr
    ·rw[am ht,cA];exact hfr2
   ·rintro acc l' V' L eK fZ rs rfl hrs hfr
    rw[show as.take vs.length=as from List.take_of_length_le (by rw[i3.length];exact Nat.le_refl _)]at hrs hfr
    intro la hla
    unfold Mine.gG
    nofun
    have LA:Le [] V' (V'.set la (.list rs)):= .new hla
    refine ab.at (oW (d:=0) KT fun w V3 L3 hw3=>?_) (by lia)
    nofun
    have L13:Le [nd] V1 V3:=L.trans (LA.trans L3).nil
    have hlan:=cJ hfr hla
    have hla0:=L1.none0 (L.none0 hla hlan) nn
    have RR:Ro V' (fzs V3 [la]):=fun b q hb=>aD _ _ _ _ ((LA.trans L3).ro _ _ hb)
    refine⟨[la],h _ _ (aR (L1.nil.trans L13) (by simpa using .inl hla0)) ?_ ((hfr.keep (LA.trans L3)).fzs (by simpa [eq_comm]using hlan))⟩
    rw[h31]
    exact⟨la,rs,hw3.mono (aD _ _),aN List.mem_cons_self (L3.at0 (aj ..)) rfl,Paired.imp (fun _ _ q=>(q.mono RR).up (by lia)) hrs⟩
  refine bz hcn ?_
  nofun
  refine d9 KT h1' rfl ?_
  nofun
  by_cases hpr:(bh t==362)=true
  ·refine bu hpr ?_
   induction t using ai.cs<;>first| (cases hpr;done) |skip
   rename_i x as
   refine dl (id h1') fun a vs i1 i2 i3=>?_
   have hla4:=hw.1
   nofun
   refine ao i1 KT (cn _) (dO _) rfl rfl ?_
   nofun
   refine ao i1 KT (cn _) (cT _) rfl rfl ?_
   refine⟨_,ax (af i2),fun cenv CK=>?_⟩
   let F:I4:=fun i acc l' V' G=>Le [nd] V1 V'->Lk l' "self" sv->Lk l' "env" ev->∀rs,acc= .l rs->PySem.Paired (Rp (3*n) V') rs (aZ (ak ay n) k (as.take i)).1->gp V' frv nd (aZ (ak ay n) k (as.take i)).2->G
   refine aq vs F ?_ ?_ ?_ vs.length 0 (Nat.zero_add _)
    (by exact fun _ k=>k (.refl ..) (by rfl') (by rfl') ([]) rfl .nil h4')
   ·rintro i acc l' V' L - - - - - -
    exact aE (af (L.ro _ _ i2)) i
   ·rintro i y acc l' V' hy R hR L eK fZ rs rfl hrs hfr
    refine be (Paired.get i3 hy) fun t ht g4=>?_
    have hwt:=hw.2 _ (List.mem_of_getElem? ht)
    have hcn2:=cI (f:=ak ay n) (B:=bQ n) (as.take i) k fun a ha=>dB dA n a (hw.2 a (List.mem_of_mem_take ha))
    have hcl2:(as.take i).length*bQ n<=4*bQ n:=Nat.mul_le_mul_right _ (by rw[List.length_take];lia)
    nofun
    refine dF (h3'.mono L.ro) KT rfl (cF _) (b8 _) (cb _) ⟨bJ KT (fF _),?_⟩
    nofun
    refine ab.at (ih (g4.mono L.ro) hwt (h2'.mono L.ro) (h3'.mono L.ro) hfr (by exact kI (Nat.le_of_eq hc.symm) hk hcn2.2 hcl2) fun r V2 L2 hr hfr2=>?_) (by lia)
    refine⟨by rw[hrs.length,cR,List.length_take];exact sz (by lia),(hR _ _ _ _ fun _ k=>k (L.trans L2) (dD (by kernel_rfl) eK) (dD (by kernel_rfl) fZ) (rs++ [r]) rfl ?_ ?_)⟩
    ·rw[am ht,cA]
     exact Paired.snoc' (Paired.imp (fun _ _ q=>q.mono L2.ro) hrs) hr
    ·rw[am ht,cA];exact hfr2
   ·rintro acc l' V' L eK fZ rs rfl hrs hfr
    rw[show as.take vs.length=as from List.take_of_length_le (by rw[i3.length];exact Nat.le_refl _)]at hrs hfr
    intro la hla
    unfold Mine.gG
    nofun
    have LA:Le [] V' (V'.set la (.list rs)):= .new hla
    refine ab.at (jH (d:=0) KT fun w V3 L3 hw3=>?_) (by lia)
    nofun
    have L13:Le [nd] V1 V3:=L.trans (LA.trans L3).nil
    have hlan:=cJ hfr hla
    have hla0:=L1.none0 (L.none0 hla hlan) nn
    have RR:Ro V' (fzs V3 [la]):=fun b q hb=>aD _ _ _ _ ((LA.trans L3).ro _ _ hb)
    refine⟨[la],h _ _ (aR (L1.nil.trans L13) (by simpa using .inl hla0)) ?_ ((hfr.keep (LA.trans L3)).fzs (by simpa [eq_comm]using hlan))⟩
    rw[h31]
    exact⟨la,rs,hw3.mono (aD _ _),aN List.mem_cons_self (L3.at0 (aj ..)) rfl,Paired.imp (fun _ _ q=>(q.mono RR).up (by lia)) hrs⟩
  refine bz hpr ?_
  nofun
  refine d9 KT h1' rfl ?_
  nofun
  by_cases hap:(bh t==141)=true
  ·refine bu hap ?_
   induction t using ai.cs<;>first| (cases hap;done) |skip
   nofun
   refine dF h3' KT rfl (cF _) (p6 _) (p7 _) ⟨bJ KT (zn _),?_⟩
   nofun
   refine ab.at (vd KT ih h1' hw h2' h3' h4' hk fun r V2 L2 hr hfr2=>?_) (by lia)
   nofun
   exact⟨[],h _ _ (L1.nil.trans L2) hr hfr2⟩
  refine bz hap ?_
  nofun
  refine d9 KT h1' rfl ?_
  nofun
  by_cases hca:(bh t==282)=true
  ·refine bu hca ?_
   induction t using ai.cs<;>first| (cases hca;done) |skip
   nofun
   refine dF h3' KT rfl (cF _) (pY _) (pZ _) ⟨bJ KT (zl _),?_⟩
   nofun
   refine ab.at (u9 KT ih h1' hw h2' h3' h4' hk fun r V2 L2 hr hfr2=>?_) (by lia)
   nofun
   exact⟨[],h _ _ (L1.nil.trans L2) hr hfr2⟩
  refine bz hca ?_
  nofun
  induction t using ai.cs<;>first| (exact absurd rfl hc1.1) | (exact absurd rfl hc1.2) | (exact absurd rfl hl) | (exact absurd rfl hcn) | (exact absurd rfl hpr) | (exact absurd rfl hap) | (exact absurd rfl hca) |skip
  refine dF h3' KT rfl (cF _) (qU _) (qV _) ⟨bJ KT (zm _),?_⟩
  nofun
  refine ab.at (xA KT (Nat.le_of_succ_le_succ hn) ih h1' hw h2' h3' h4' hk fun r V2 L2 hr hfr2=>?_) (by lia)
  nofun
  exact⟨[],h _ _ (L1.nil.trans L2) hr hfr2⟩
end
theorem Ax(m:ai):∀i,i<5->(bO (ak ay 8) 0 ((bU m).take i)).2=0
 |0,_=>rfl
 |1,_=>rfl
 |2,_=>rfl
 |3,_=>rfl
 |4,_=>rfl
 |n+5,h=>by lia
section
variable{c:Cx}{d n:Nat}{env:Env}{l:au}{V:St}{p pos:Pos}{Q:Value->St->Prop}{QB:Bool->St->Prop}{QF:Fl->au->St->Prop}{QL:au->St->Prop}{ns:List (Str×NameKind)}
theorem Ay(KT:HK c){v0:Value}(h:∀v V',Le [] V V'->IA V' v 557 [("fresh",v0)]->Q v V'):ab c (d+2) (.ref 557) [v0] V Q:=
 ab.frz (Ai KT fun x dx hx hd hne=>⟨[x,dx],h _ _ (dK hx hd hne) (eZ hne)⟩)
theorem tg(KT:HK c){v frv w1 w2:Value}{b nd:Addr}{pvs:List Value}{m:ai}(h1:IA V v 383 [("binds",.ref b),("cons",w1),("main",w2)])(h2:V b=some (.ro (.list pvs)))
  (hp:PySem.Paired (gj 8 V) pvs (bU m)) (hm:(bh m==183)=false) (hw:∀p∈bU m,Wf 8 p.2) (h4:gp V frv nd 0) (hh1:handedIn w1=true) (hh2:handedIn w2=true)
  (h:∀r V' lb rs,Le [nd] V V'->IA V' r 383 [("binds",.ref lb),("cons",w1),("main",w2)]->V' lb=some (.ro (.list rs))->PySem.Paired (gj 24 V') rs (bO (ak ay 8) 0 (bU m)).1->Q r V'):ab c 300 (.ref 566) [v,frv] V Q:=by
 refine ab.frz (eC (x0:="program") (x1:="fresh") KT ?_)
 intro env K
 try dsimp only at K
 refine be (no hp) fun ts hts hpt=>?_
 nofun
 refine ab.at (mS KT h1 h2 hpt hts hm fun ev V1 L1 hev=>?_) (by lia)
 nofun
 refine ab.at (Ay (d:=0) KT fun sv V2 L2 hsv=>?_) (by lia)
 have L12:=L1.trans L2
 nofun
 refine ao (h1.mono L12.ro) KT (dZ _) (d0 _) rfl rfl ?_
 refine⟨_,ax (af (L12.ro _ _ h2)),fun cenv CK=>?_⟩
 have hpl:pvs.length=5:=by rw[hp.length];rfl
 have hev2:=hev.mono L2.ro
 let F:I4:=fun i acc l' V' G=>Le [nd] V2 V'->Lk l' "forcer" sv->Lk l' "env" ev->∀rs,acc= .l rs->PySem.Paired (gj 24 V') rs (bO (ak ay 8) 0 ((bU m).take i)).1->gp V' frv nd (bO (ak ay 8) 0 ((bU m).take i)).2->G
 refine aq pvs F ?_ ?_ ?_ pvs.length 0 (Nat.zero_add _)
  (by exact fun _ k=>k (.refl ..) (by rfl') (by rfl') ([]) rfl .nil (h4.keep L12))
 ·rintro i acc l' V' L - - - - - -
  exact aE (af (L.ro _ _ (L12.ro _ _ h2))) i
 ·rintro i y acc l' V' hy R hR L eK fZ rs rfl hrs hfr
  refine be (Paired.get hp hy) fun z0 ht zr=>?_;refine dl zr fun q tv z4 g1 g2=>?_;obtain⟨x,t⟩:=z0;subst z4
  have hi5:i<5:=by rw[←hpl];exact(List.getElem?_eq_some_iff.mp hy).1
  have hk0:=Ax m i hi5
  have LL:Le [nd] V V':=L12.nil.trans L
  have hwt:=hw _ (List.mem_of_getElem? ht)
  dsimp only at g1 g2
  refine dp (af (LL.ro _ _ g1)) rfl rfl ?_
  walk_at "goT"
  refine dF (hsv.mono L.ro) KT rfl (cF _) (b8 _) (cb _) ⟨bJ KT (fF _),?_⟩
  nofun
  refine ab.at (vf KT 8 (Nat.le_refl _) (g2.mono LL.ro) hwt (hev2.mono L.ro) (hsv.mono L.ro) hfr (by rw[hk0];decide) fun r1 V3 L3 hr1 hfr3=>?_) (by lia)
  nofun
  refine⟨bW rfl,fun w V4 L4 hw0 hw4=>?_⟩
  have L34:=L3.trans L4.nil
  have hrl:rs.length<=5:=by rw[hrs.length,eo,List.length_take];exact yc (Nat.le_of_lt hi5)
  refine⟨sz (by lia),(hR _ _ _ _ fun _ k=>k (L.trans L34) (by rfl') (by rfl') (rs++ [.ref w]) rfl ?_ ?_)⟩
  ·rw[am ht,fy]
   exact Paired.snoc' (Paired.imp (fun _ _ q=>q.mono L34.ro) hrs) ⟨w,r1,rfl,hw4,hr1.mono L4.ro⟩
  ·rw[am ht,fy];exact hfr3.keep L4
 ·rintro acc l' V' L eK fZ rs rfl hrs hfr
  rw[show(bU m).take pvs.length=bU m from List.take_of_length_le (by rw[hp.length];exact Nat.le_refl _)]at hrs hfr
  intro lb hlb
  unfold Mine.gG
  have LL:Le [nd] V V':=L12.nil.trans L
  have LA:Le [] V' (V'.set lb (.list rs)):= .new hlb
  have hlb0:=LL.none0 hlb (cJ hfr hlb)
  nofun
  refine ao (h1.mono (LL.trans LA.nil).ro) KT (dZ _) (j0 _) rfl hh1 ?_
  nofun
  refine ao (h1.mono (LL.trans LA.nil).ro) KT (dZ _) (hH _) rfl hh2 ?_
  nofun
  refine ab.at (uK (d:=0) KT fun w V5 L5 hw5=>?_) (by lia)
  nofun
  have RR:Ro V' (fzs V5 [lb]):=fun b q hb=>aD _ _ _ _ (L5.ro _ _ (LA.ro _ _ hb))
  exact⟨[lb],h _ _ lb rs (aR (LL.trans (LA.trans L5).nil) (by simpa using .inl hlb0)) (hw5.mono (aD _ _)) (aN List.mem_cons_self (L5.at0 (aj ..)) rfl) (Paired.imp (fun _ _ q=>q.mono RR) hrs)⟩
end
section
variable{c:Cx}{d n:Nat}{env:Env}{l:au}{V:St}{p pos:Pos}{Q:Value->St->Prop}{QB:Bool->St->Prop}{QF:Fl->au->St->Prop}{QL:au->St->Prop}{ns:List (Str×NameKind)}
theorem vg(KT:HK c){v:Value}{ad nd b:Addr}{ae:Nat}{xs:List Str}(h1:∃x dx,v= .ref x/\rd V x=some (.inst 764 dx)/\rd V dx=some (.attr [("avoided",.ref ad),("numbers",.ref nd)]))(h2:V ad=some (.dict [] ae))(h3:rd V b=some (.list (xs.map aJ)))(hz:xs.length<=100)(hbad:b≠ad)
  (h:∀V' ep,(∀a,a≠ad->V' a=V a)->V' ad=some (.dict (xs.foldl (fun k x=>stored k x kh) []) ep)->Q .none V'):ab c 1 (.ref 754) [v,.ref b] V Q:=by
 refine eC (x0:="self") (x1:="names") KT ?_
 intro env K
 try dsimp only at K
 refine dl h1 fun x dx z2 i1 i2=>?_;subst z2
 nofun
 refine⟨_,ax h3,?_⟩
 have hself:∀V',(∀a,a≠ad->V' a=V a)->∀ep k,V' ad=some (.dict k ep)->rd V' x=some (.inst 764 dx)/\rd V' dx=some (.attr [("avoided",.ref ad),("numbers",.ref nd)])/\rd V' b=some (.list (xs.map aJ)):=by
  intro V' hs ep k hk
  have go:∀a o,rd V a=some o->(∀k e,o≠ .dict k e)->rd V' a=some o:=by
   intro a o ha ho
   have:a≠ad:=by
    rintro rfl
    rw[af h2]at ha
    exact ho _ _ (Option.some.inj ha).symm
   unfold rd at ha ⊢
   rw[hs a this];exact ha
  exact⟨go _ _ i1 (by intros;exact nofun),go _ _ i2 (by intros;exact nofun),go _ _ h3 (by intros;exact nofun)⟩
 let F:I3:=fun i l' V' G=>Lk l' "self" (.ref x)->(∀a,a≠ad->V' a=V a)->∀ep,V' ad=some (.dict ((xs.take i).foldl (fun k x=>stored k x kh) []) ep)->G
 refine cW (xs.map aJ) F ?_ ?_ ?_ (xs.map aJ).length 0 (Nat.zero_add _) (by exact fun _ k=>k (by rfl') (fun _ _=>rfl) ae h2)
 ·rintro i l' V' _ hs ep hk
  exact aE (hself _ hs _ _ hk).2.2 i
 ·rintro i y l' V' hy _ _ hl hs ep hk
  obtain⟨z,hz',rfl⟩:∃z,xs[i]? =some z/\aJ z=y:=by
   rw[List.getElem?_map]at hy
   induction e:xs[i]? with
   |none=>rw[e]at hy;cases hy
   |some z=>rw[e]at hy;exact⟨z,rfl,Option.some.inj hy⟩
  refine nT (hself _ hs _ _ hk) fun j1 j2 j3=>?_
  nofun
  refine n7 j1 j2 rfl (d8 KT (fm _)) (by rw[KT];exact fG _) rfl ?_ true
  nofun
  have hlen:∀(ys:List Str) (k:Kv),(ys.foldl (fun k x=>stored k x kh) k).length<=k.length+ys.length:=by
   intro ys
   induction ys with
   |nil=>intro k;exact Nat.le_refl _
   |cons y r ih=>intro k;rw[List.foldl_cons,List.length_cons];have:=ih (stored k y kh);have:=lD k y kh;lia
  have fZ:=hlen (xs.take i) []
  rw[List.length_take,List.length_nil]at fZ
  refine jb hk (sz (Nat.le_trans fZ (mu (Nat.zero_add _) (jV (fQ hz rfl))))) fun ep'=>?_
  nofun
  refine(fun _ k=>k (dD (by kernel_rfl) hl) (fun a ha=>by rw[←hs a ha];exact if_neg ha) ep' ?_)
  rw[bw hz']
  exact aj ..
 ·rintro l' V' hl hs ep hk
  rw[List.length_map,List.take_length]at hk
  nofun
  exact h _ _ hs hk
end
section
variable{c:Cx}{d n:Nat}{env:Env}{l:au}{V:St}{p pos:Pos}{Q:Value->St->Prop}{QB:Bool->St->Prop}{QF:Fl->au->St->Prop}{QL:au->St->Prop}{ns:List (Str×NameKind)}
theorem vh(KT:HK c){b:Addr}{xs:List Str}(h3:rd V b=some (.list (xs.map aJ)))(hz:xs.length<=100)
  (h:∀v nd V',Le [] V V'->V nd=none->(∃ad ae ne,IA V' v 764 [("avoided",.ref ad),("numbers",.ref nd)]/\V' ad=some (.ro (.dict (xs.foldl (fun k x=>stored k x kh) []) ae))/\V' nd=some (.dict [] ne))->Q v V'):ab c 3 (.ref 764) [.ref b] V Q:=by
 refine ab.frz ?_
 refine fR (d8 KT (fm _)) (by rw[KT];exact wS _) (by rw[KT];exact wT _) (fun x dx hx hd hne=>?_)
 refine li (ps:=["self","avoided"]) (vs:=[_,_]) (by rw[KT];rfl) rfl rfl (by rw[KT];kernel_rfl) rfl (fun s rvs hK hl=>by
  refine CA (CE hl) fun r0 r1 z2=>?_;subst z2
  exact binds_K hK rfl (by rw[KT];rfl) rfl (by rfl) (by rfl)) ?_
 intro env K
 try dsimp only at K
 show SS c 1 env _ _ (eV V x dx 764 []) _
 refine aG (br (ky fun ad ae had=>?_) rfl rfl rfl)
 have hxa:x≠ad:=fun e=>by rw[←e]at had;rw[lw]at had;cases had
 have hda:dx≠ad:=fun e=>by rw[←e,nh hne]at had;cases had
 walk_at "me"
 walk_at "me"
 refine kC (C:=764) (dx:=dx) (af (o:= .inst 764 dx) (by rw[aA _ _ hxa];exact lw)) (by rw[aA _ _ hda];exact nh hne) (d8 KT (fm _)) (by rw[KT];exact fG _) (by decide) ?_
 dsimp only
 have q1:(((eV V x dx 764 []).set ad (.dict [] ae)).set dx (.attr [("avoided",.ref ad)])) x=some (.inst 764 dx):=by rw[aA _ _ hne,aA _ _ hxa];exact lw
 have q2:(((eV V x dx 764 []).set ad (.dict [] ae)).set dx (.attr [("avoided",.ref ad)])) dx=some (.attr [("avoided",.ref ad)]):=aj ..
 have q3:(((eV V x dx 764 []).set ad (.dict [] ae)).set dx (.attr [("avoided",.ref ad)])) ad=some (.dict [] ae):=by rw[aA _ _ (Ne.symm hda)];exact aj ..
 show SS c 1 env _ _ (((eV V x dx 764 []).set ad (.dict [] ae)).set dx (.attr [("avoided",.ref ad)])) _
 refine aG (br (ky fun nd ne hnd=>?_) rfl rfl rfl)
 have O1:∀a,a≠x->a≠dx->a≠ad->(((eV V x dx 764 []).set ad (.dict [] ae)).set dx (.attr [("avoided",.ref ad)])) a=V a:=fun a h1 h2 h3=>by
  rw[aA _ _ h2,aA _ _ h3];unfold eV;rw[aA _ _ h1,aA _ _ h2]
 generalize ((eV V x dx 764 []).set ad (.dict [] ae)).set dx (.attr [("avoided",.ref ad)])=τ at*
 have hxn:x≠nd:=Ne.symm (aO hnd q1)
 have hdn:dx≠nd:=Ne.symm (aO hnd q2)
 have han:ad≠nd:=Ne.symm (aO hnd q3)
 walk_at "me"
 walk_at "me"
 refine kC (C:=764) (dx:=dx) (af (o:= .inst 764 dx) (by rw[aA _ _ hxn];exact q1)) (by rw[aA _ _ hdn];exact q2) (d8 KT (fm _)) (by rw[KT];exact fH _) (Nat.le_trans (Nat.le_of_eq (show _=1 from rfl)) (by decide)) ?_
 dsimp only
 show SS c 1 env _ _ ((τ.set nd (.dict [] ne)).set dx (.attr [("avoided",.ref ad),("numbers",.ref nd)])) _
 have r1:((τ.set nd (.dict [] ne)).set dx (.attr [("avoided",.ref ad),("numbers",.ref nd)])) x=some (.inst 764 dx):=by rw[aA _ _ hne,aA _ _ hxn];exact q1
 have r2:((τ.set nd (.dict [] ne)).set dx (.attr [("avoided",.ref ad),("numbers",.ref nd)])) dx=some (.attr [("avoided",.ref ad),("numbers",.ref nd)]):=aj ..
 have r3:((τ.set nd (.dict [] ne)).set dx (.attr [("avoided",.ref ad),("numbers",.ref nd)])) ad=some (.dict [] ae):=by rw[aA _ _ (Ne.symm hda),aA _ _ han];exact q3
 have r4:((τ.set nd (.dict [] ne)).set dx (.attr [("avoided",.ref ad),("numbers",.ref nd)])) nd=some (.dict [] ne):=by rw[aA _ _ (Ne.symm hdn)];exact aj ..
 have O2:∀a,a≠x->a≠dx->a≠ad->a≠nd->((τ.set nd (.dict [] ne)).set dx (.attr [("avoided",.ref ad),("numbers",.ref nd)])) a=V a:=fun a h1 h2 h3 h4=>by
  rw[aA _ _ h2,aA _ _ h4];exact O1 a h1 h2 h3
 generalize (τ.set nd (.dict [] ne)).set dx (.attr [("avoided",.ref ad),("numbers",.ref nd)])=υ at*
 nofun
 refine kS (af r1) (af r2) rfl (d8 KT (fm _)) (by rw[KT];exact oP _) (by rw[KT];exact oQ _) ?_
 refine⟨bJ KT (zt _),?_⟩
 nofun
 have hb0:∀a,V a=none->b≠a:=fun a ha e=>by rw[e]at h3;unfold rd at h3;rw[ha]at h3;cases h3
 have had0:V ad=none:=by rw[eV,aA _ _ hxa.symm,aA _ _ hda.symm]at had;exact had
 have hnd0:V nd=none:=by rw[O1 nd hxn.symm hdn.symm han.symm]at hnd;exact hnd
 have hb4:rd υ b=some (.list (xs.map aJ)):=by
  unfold rd at h3 ⊢
  rw[O2 b (hb0 _ hx) (hb0 _ hd) (hb0 _ had0) (hb0 _ hnd0)];exact h3
 refine ab.at (vg KT ⟨x,dx,rfl,af r1,af r2⟩ r3 hb4 hz (hb0 _ had0) fun V' ep O3 e3=>?_) (by lia)
 nofun
 have t1:V' x=some (.inst 764 dx):=by rw[O3 x hxa];exact r1
 have t2:V' dx=some (.attr [("avoided",.ref ad),("numbers",.ref nd)]):=by rw[O3 dx hda];exact r2
 have t4:V' nd=some (.dict [] ne):=by rw[O3 nd han.symm];exact r4
 have L:Le [] V V':=by
  have go:∀a o,V a=some o->V' a=some o:=fun a o e=>by
   have n1:a≠x:=fun q=>by rw[q,hx]at e;cases e
   have n2:a≠dx:=fun q=>by rw[q,hd]at e;cases e
   have n3:a≠ad:=fun q=>by rw[q,had0]at e;cases e
   have n4:a≠nd:=fun q=>by rw[q,hnd0]at e;cases e
   rw[O3 a n3,O2 a n1 n2 n3 n4];exact e
  exact⟨fun a r q=>go a _ q,fun a o _ q=>go a _ q⟩
 refine⟨rfl,[x,dx,ad],h _ nd _ (aR L ?_) hnd0 ⟨ad,ep,ne,⟨x,dx,rfl,aN (by simp) t1 rfl,aN (by simp) t2 rfl⟩,aN (by simp) e3 rfl,?_⟩⟩
 ·intro a ha
  simp only[List.mem_cons,List.mem_nil_iff,or_false]at ha
  rcases ha with rfl|rfl|rfl
  ·exact .inl hx
  ·exact .inl hd
  ·exact .inl had0
 ·rw[gd _ (by simp[hxn.symm,hdn.symm,han.symm])];exact t4
end
noncomputable def bl(b:Str)(k:Nat):Str:=b++((toString (k:Int):String):Str)
noncomputable def bb:List (Str×Nat):=[(("x":Str),0),(("y":Str),0),(("z":Str),0)]++((List.range 10).map fun i=>(bl "c" (i+1),i+1))++((List.range 10).map fun i=>(bl "l" (i+1),i+1))++((List.range 10).map fun i=>(bl "p" (i+1),i+1))
noncomputable def cf:List Str:=["add","look","stop","cell"]
theorem CU:∀i,i<10->bb.lookup (bl "c" (i+1))=some (i+1):=by decide+kernel
theorem CV:∀i,i<10->bb.lookup (bl "l" (i+1))=some (i+1):=by decide+kernel
theorem CW:∀i,i<10->bb.lookup (bl "p" (i+1))=some (i+1):=by decide+kernel
theorem Az:∀x∈cf,bb.lookup x=none:=by decide+kernel
def Gd:Nat->Nat->ai->Prop
 |0,_,_=>False
 |n+1,m,t=>match t with
  | .var x=>(bb.lookup x).isSome=true
  | .lit i=>i=0∨i=1
  | .prim op as=>(op="error"∨op="intAdd")/\as.length<=2/\∀a∈as,Gd n m a
  | .con x as=>x="C"/\as.length<=1/\∀a∈as,Gd n m a
  | .lam ps b=>∃p i,ps=[p]/\bb.lookup p=some i/\m<i/\Gd n i b
  | .app f as=>1<=as.length/\as.length<=3/\(∀a∈as,Gd n m a)/\(match f with
    | .var x=>x∈cf
    | .lam ps b=>as.length=1/\Gd n m (.lam ps b)
    |_=>False)
  | .case e x alts o=>alts.length=1/\Gd n m e/\∃i,bb.lookup x=some i/\m<i/\(∀p∈alts,p.1=1/\Gd n i p.2)/\∀t,o=some t->Gd n i t
  | .letn bs b r=>1<=bs.length/\bs.length<=2/\lC bs=true/\(bs.map (·.1)).Nodup/\∃i,m<=i/\(∀p∈bs,(∃j,bb.lookup p.1=some j/\m<j/\j<=i)/\Gd n i p.2)/\Gd n i b
theorem Gd.lo:∀{n m m':Nat} {t:ai},Gd n m t->m'<=m->Gd n m' t:=by
 intro n
 induction n with
 |zero=>intro _ _ _ h _;exact h.elim
 |succ n ih=>
  intro m m' t h hm
  induction t using ai.cs with
  |var x=>exact h
  |lit i=>exact h
  |prim op as=>exact⟨h.1,h.2.1,fun a ha=>ih (h.2.2 a ha) hm⟩
  |con x as=>exact⟨h.1,h.2.1,fun a ha=>ih (h.2.2 a ha) hm⟩
  |lam ps b=>exact let ⟨p,i,e1,e2,e3,e4⟩:=h;⟨p,i,e1,e2,by exact bC hm e3,e4⟩
  |app f as=>
   refine ye h fun h1 h2 h3 h4=>?_
   refine⟨h1,h2,fun a ha=>ih (h3 a ha) hm,?_⟩
   induction f using ai.cs<;>first|exact h4|skip
   exact⟨h4.1,ih h4.2 hm⟩
  |case e x alts o=>
   refine nT h fun h1 h2 zr=>?_;refine yf zr fun i h3 h4 h5 h6=>?_
   exact⟨h1,ih h2 hm,i,h3,by exact bC hm h4,h5,h6⟩
  |letn bs b r=>
   refine tL h fun h1 h2 hl h3 zr=>?_;refine iz zr fun i h4 h5 h6=>?_
   exact⟨h1,h2,hl,h3,i,by lia,fun p hp=>⟨let ⟨j,a,b,c⟩:=(h5 p hp).1;⟨j,a,by exact bC hm b,c⟩,(h5 p hp).2⟩,h6⟩
theorem Gd.up1:∀{n m:Nat} {t:ai},Gd n m t->Gd (n+1) m t:=by
 intro n
 induction n with
 |zero=>intro m t h;exact h.elim
 |succ n ih=>
  intro m t h
  induction t using ai.cs with
  |var x=>exact h
  |lit i=>exact h
  |prim op as=>exact⟨h.1,h.2.1,fun a ha=>ih (h.2.2 a ha)⟩
  |con op as=>exact⟨h.1,h.2.1,fun a ha=>ih (h.2.2 a ha)⟩
  |lam ps b=>refine sI h fun p i e1 e2 e3 e4=>?_;exact⟨p,i,e1,e2,e3,ih e4⟩
  |app f as=>
   refine ye h fun h1 h2 h3 h4=>?_
   refine⟨h1,h2,fun a ha=>ih (h3 a ha),?_⟩
   induction f using ai.cs<;>first|exact h4|skip
   exact⟨h4.1,ih h4.2⟩
  |case e x alts o=>
   refine nT h fun h1 h2 zr=>?_;refine yf zr fun i h3 h4 h5 h6=>?_
   exact⟨h1,ih h2,i,h3,h4,fun p hp=>⟨(h5 p hp).1,ih (h5 p hp).2⟩,fun t ht=>ih (h6 t ht)⟩
  |letn bs b r=>
   refine tL h fun h1 h2 hl h3 zr=>?_;refine iz zr fun i h4 h5 h6=>?_
   exact⟨h1,h2,hl,h3,i,h4,fun p hp=>⟨(h5 p hp).1,ih (h5 p hp).2⟩,ih h6⟩
theorem Gd.up{n m:Nat}{t:ai}(h:Gd n m t){k:Nat}(hm:n<=k):Gd k m t:=by
 induction hm with
 |refl=>exact h
 |step _ ih=>exact ih.up1
theorem Gd.wf:∀{n m:Nat} {t:ai},Gd n m t->Wf n t:=by
 intro n
 induction n with
 |zero=>intro _ _ h;exact h.elim
 |succ n ih=>
  intro m t h
  induction t using ai.cs with
  |var x=>exact trivial
  |lit i=>exact trivial
  |prim op as=>exact⟨by have:=h.2.1;lia,fun a ha=>ih (h.2.2 a ha)⟩
  |con x as=>exact⟨by have:=h.2.1;lia,fun a ha=>ih (h.2.2 a ha)⟩
  |lam ps b=>
   refine sI h fun p i e1 e2 e3 e4=>?_
   subst e1
   exact⟨by simp,ih e4⟩
  |app f as=>
   refine ye h fun h1 h2 h3 h4=>?_
   have hn:∃k,n=k+1:=by
    induction n using dQ with
    |zero=>match as,h1 with
     |a::r,_=>exact(h3 a List.mem_cons_self).elim
    |succ k=>exact⟨k,rfl⟩
   refine dP hn fun k z1=>?_;subst z1
   refine⟨?_,by lia,fun a ha=>ih (h3 a ha)⟩
   induction f using ai.cs<;>first|exact h4.elim|trivial|exact ih h4.2
  |case e x alts o=>
   refine nT h fun h1 h2 zr=>?_;refine yf zr fun i h3 h4 h5 h6=>?_
   exact⟨ih h2,by lia,fun p hp=>ih (h5 p hp).2,fun t ht=>ih (h6 t ht)⟩
  |letn bs b r=>
   refine tL h fun h1 h2 hl h3 zr=>?_;refine iz zr fun i h4 h5 h6=>?_
   exact⟨h2,hl,h3,fun p hp=>ih (h5 p hp).2,ih h6⟩
 /-! ## dead,sure -/
noncomputable def eD(x:Str):Option (List Bool):=if(x==("add":Str))=true then some [true,true]else if(x==("look":Str))=true then some [true,false]else if(x==("stop":Str))=true then none else if(x==("cell":Str))=true then some [false]else some []
noncomputable abbrev DS:=ai->Bool×(Str->Bool)
noncomputable def kq(fl:List Bool)(as:List ai):List ai:=((fl.zip as).filter (·.1)).map (·.2)
noncomputable def aT(D:DS)(f:ai)(as:List ai):Option (List ai):=match f with
 | .lam ps b=>if(D b).1=true then none else some (if(D b).2 (ps.headD "")=true then as.take 1 else [])
 | .var x=>match eD x with
   |none=>none
   |some fl=>some (if as.length<fl.length then []else kq fl as)
 |_=>some []
noncomputable def hZ(D:DS)(f:ai)(y:Str):Bool:=match f with
 | .lam _ b=>(D b).2 y
 |_=>false
noncomputable def cS(alts:List (Int×ai))(o:Option ai):List ai:=alts.map (·.2)++o.toList
noncomputable def dj(bs:List (Str×ai))(x:Str):ai:=(bs.lookup x).getD (.lit 0)
noncomputable def cK(D:DS)(bs:List (Str×ai))(found:List Str)(x:Str):List Str:=(bs.map (·.1)).filter fun o=> !found.contains o&&(D (dj bs x)).2 o
noncomputable def bR(D:DS)(bs:List (Str×ai)):Nat->Nat->List Str->List Str
 |0,_,found=>found
 |f+1,i,found=>match found[i]? with
  |none=>found
  |some x=>bR D bs f (i+1) (found++cK D bs found x)
noncomputable def bm(D:DS)(bs:List (Str×ai))(b:ai):List Str:=bR D bs (bs.length+1) 0 ((bs.map (·.1)).filter fun o=>(D b).2 o)
noncomputable def ds:Nat->DS
 |0,_=>(false,fun _=>false)
 |n+1,t=>match t with
  | .var x=>(false,fun y=>x==y)
  | .lit _=>(false,fun _=>false)
  | .con _ _=>(false,fun _=>false)
  | .lam _ _=>(false,fun _=>false)
  | .prim op as=>((op==("error":Str))||as.any fun a=>(ds n a).1,fun y=>as.any fun a=>(ds n a).2 y)
  | .case e _ alts o=>((ds n e).1||(cS alts o).all fun w=>(ds n w).1,fun y=>(ds n e).2 y||((cS alts o).filter fun w=> !(ds n w).1).all fun w=>(ds n w).2 y)
  | .letn bs b _=>((ds n b).1||(bm (ds n) bs b).any fun x=>(ds n (dj bs x)).1,fun y=>(ds n b).2 y||(bm (ds n) bs b).any fun x=>(ds n (dj bs x)).2 y)
  | .app f as=>(match aT (ds n) f as with
    |none=>true
    |some ts=>ts.any fun a=>(ds n a).1,fun y=>hZ (ds n) f y||(match aT (ds n) f as with
    |none=>false
    |some ts=>ts.any fun a=>(ds n a).2 y))
noncomputable def bj(k:Nat):Str:=bl "k" k
noncomputable def eI(n:Nat)(bs:List (Str×ai))(b:ai)(r:Bool):Bool:=match bs with
 | [(x,t)]=> !r&& !de t&& !(ds n b).1&&(ds n b).2 x
 |_=>false
noncomputable def cy:ai->Option Sg
 | .var x=>(eD x).map fun fl=>⟨fl,[],false⟩
 |_=>none
noncomputable def aF:Nat->Nat->ai->ai×Nat
 |0,k,t=>(t,k)
 |n+1,k,t=>match t with
  | .var x=>(.var x,k)
  | .lit i=>(.lit i,k)
  | .lam ps b=>(.lam ps (aF n k b).1,(aF n k b).2)
  | .con x as=>(.con x (aZ (aF n) k as).1,(aZ (aF n) k as).2)
  | .prim op as=>(.prim op (aZ (aF n) k as).1,(aZ (aF n) k as).2)
  | .app f as=>
    let r:=aZ (aF n) k as
    let s:=ct bj (cy f) as r.1 r.2
    (gS s.ahead (.app (aF n s.k f).1 s.args),(aF n s.k f).2)
  | .case e x alts o=>
    let a:=ci (aF n) k alts
    let b:=fP (aF n) a.2 o
    (.case (aF n b.2 e).1 x a.1 b.1,(aF n b.2 e).2)
  | .letn bs b r=>
    let d:=bO (aF n) k bs
    let c:=aF n d.2 b
    (qn (eI n bs b r) d.1 c.1 r,c.2)
noncomputable def ge(h:Kv)(x:Str):Value:=(h.lookup x).getD (aJ x)
noncomputable def eB(h:Kv)(ps:List Str)(ks:List Nat):Kv:=(ps.zip ks).foldl (fun h p=>stored h p.1 (.int (p.2:Int) 0)) h
def AL:Nat->Kv->Kv->ai->ai->Prop
 |0,_,_,_,_=>False
 |n+1,h1,h2,t1,t2=>match t1,t2 with
  | .var x,.var y=>ge h1 x=ge h2 y
  | .lit i,.lit j=>i=j
  | .prim a as,.prim b bs=>a=b/\as.length<=4/\PySem.Paired (AL n h1 h2) as bs
  | .con a as,.con b bs=>a=b/\as.length<=4/\PySem.Paired (AL n h1 h2) as bs
  | .lam ps b,.lam qs b'=>ps.length=qs.length/\ps.length<=4/\∀ks,ks.length=ps.length->AL n (eB h1 ps ks) (eB h2 qs ks) b b'
  | .app f as,.app g bs=>as.length<=4/\AL n h1 h2 f g/\PySem.Paired (AL n h1 h2) as bs
  | .case e x al o,.case e' y al' o'=>al.length<=4/\AL n h1 h2 e e'/\∀k:Nat,PySem.Paired (fun(p q:Int×ai)=>p.1=q.1/\AL n (stored h1 x (.int k 0)) (stored h2 y (.int k 0)) p.2 q.2) al al'/\(match o,o' with
    |none,none=>True
    |some t,some t'=>AL n (stored h1 x (.int k 0)) (stored h2 y (.int k 0)) t t'
    |_,_=>False)
  | .letn bs b r,.letn bs' b' r'=>r=r'/\bs.length=bs'.length/\bs.length<=4/\∀ks,ks.length=bs.length->
    PySem.Paired (fun(p q:Str×ai)=>AL n (if r=true then eB h1 (bs.map (·.1)) ks else h1) (if r=true then eB h2 (bs'.map (·.1)) ks else h2) p.2 q.2) bs bs'/\AL n (eB h1 (bs.map (·.1)) ks) (eB h2 (bs'.map (·.1)) ks) b b'
  |_,_=>False
noncomputable def has(o:Option Kv)(y:Str):Bool:=match o with
 |none=>false
 |some k=>(k.lookup y).isSome
theorem eJ(k:Kv)(x:Str)(v:Value)(y:Str):(stored k x v).lookup y=if(y==x)=true then some v else k.lookup y:=by
 have hmap:∀(k:Kv),(k.map fun kv=>if kv.1=x then(kv.1,v)else kv).lookup y=if(y==x)=true then(if(k.any fun kv=>kv.1=x)=true then some v else none)else k.lookup y:=by
  intro k
  induction k with
  |nil=>simp
  |cons p r ih=>
   obtain⟨pn,pv⟩:=p
   rw[List.map_cons]
   by_cases hp:pn=x
   ·subst hp
    rw[if_pos rfl,List.lookup_cons,List.lookup_cons,ih,List.any_cons]
    cases hy:y==pn
    ·simp
    ·simp
   ·rw[if_neg hp,List.lookup_cons,List.lookup_cons,ih,List.any_cons]
    have hdp:decide (pn=x)=false:=decide_eq_false hp
    cases hy:y==pn
    ·show _=if(y==x)=true then if(decide (pn=x)||r.any fun kv=>decide (kv.1=x))=true then some v else none else r.lookup y
     rw[hdp,Bool.false_or]
    ·have:y=pn:=by simpa using hy
     subst this
     have:(y==x)=false:=by simpa using hp
     rw[this];simp
 unfold stored
 split
 ·rename_i h
  rw[hmap,h];simp
 ·rename_i h
  have hn:∀p∈k,p.1≠x:=fun p hp e=>h (List.any_eq_true.mpr ⟨p,hp,by simpa using e⟩)
  clear h hmap
  induction k with
  |nil=>rw[List.nil_append,List.lookup_cons];cases y==x<;>simp
  |cons p r ih=>
   obtain⟨pn,pv⟩:=p
   rw[List.cons_append,List.lookup_cons,List.lookup_cons,ih (fun q hq=>hn q (List.mem_cons_of_mem _ hq))]
   cases hy:y==pn
   ·rfl
   ·have:y=pn:=by simpa using hy
    subst this
    have:(y==x)=false:=by simpa using hn _ List.mem_cons_self
    rw[this];simp
theorem dL(a b:Kv)(y:Str):((merged a b).lookup y).isSome=((a.lookup y).isSome||(b.lookup y).isSome):=by
 unfold merged
 induction b generalizing a with
 |nil=>simp
 |cons p r ih=>
  rw[List.foldl_cons,ih,eJ,List.lookup_cons]
  cases hy:y==p.1
  ·simp
  ·simp
theorem sk(xs:List Str)(p:Str->Bool)(y:Str):((fK xs p).lookup y).isSome=(xs.contains y&&p y):=by
 have key:∀(ys:List Str) (a:Kv),((ys.foldl (fun acc x=>stored acc x (.bool true)) a).lookup y).isSome=((a.lookup y).isSome||ys.contains y):=by
  intro ys
  induction ys with
  |nil=>intro a;simp
  |cons x r ih=>
   intro a
   rw[List.foldl_cons,ih,eJ,List.contains_cons]
   cases hy:y==x<;>simp
 unfold fK
 rw[key]
 rw[Bool.eq_iff_iff]
 simp
theorem nB(k:Kv)(y:Str):(ch k).contains y=(k.lookup y).isSome:=by
 unfold ch
 induction k with
 |nil=>rfl
 |cons p r ih=>
  rw[List.map_cons,List.contains_cons,List.lookup_cons,ih]
  cases hy:y==p.1<;>simp
theorem cL(o:Option Kv)(xs:List Str)(y:Str)(h:xs.contains y=false):has (a7 o xs) y=has o y:=by
 induction o with
 |none=>rfl
 |some k=>
  show((fK (ch k) fun x=> !xs.contains x).lookup y).isSome=(k.lookup y).isSome
  rw[sk,nB,h];simp
theorem ft(o:Option Kv)(xs:List Str):(a7 o xs).isNone=o.isNone:=by induction o<;>rfl
theorem gu(a b:Option Kv):(bq a b).isNone=(a.isNone||b.isNone):=by induction a<;>induction b<;>rfl
theorem ib{a b:Option Kv}(ha:a.isNone=false)(hb:b.isNone=false)(y:Str):has (bq a b) y=(has a y||has b y):=by
 induction a<;>induction b<;>first|exact absurd ha (by decide) |exact absurd hb (by decide) |exact dL ..
theorem nE(nd:ai->Option Kv):∀(as:List ai) (f:Option Kv),(as.foldl (fun f a=>bq f (nd a)) f).isNone=(f.isNone||as.any fun a=>(nd a).isNone)
 | [],f=>by simp
 |a::r,f=>by rw[List.foldl_cons,nE nd r,gu,List.any_cons,Bool.or_assoc]
theorem vi(nd:ai->Option Kv)(y:Str):∀(as:List ai) (f:Option Kv),f.isNone=false->(as.any fun a=>(nd a).isNone)=false->has (as.foldl (fun f a=>bq f (nd a)) f) y=(has f y||as.any fun a=>has (nd a) y):=by
 intro zz
 induction zz with
 |nil=>
  intro f _ _
  simp
 |cons a r ih=>
  intro f hf h
  rw[List.any_cons,Bool.or_eq_false_iff]at h
  rw[List.foldl_cons,ih _ (by rw[gu,hf,h.1];rfl) h.2,ib hf h.1,List.any_cons,Bool.or_assoc]
theorem lN(nd:ai->Option Kv):∀(xs:List (Bool×ai)) (f:Option Kv),xs.foldl (fn nd) f=((xs.filter (·.1)).map (·.2)).foldl (fun f a=>bq f (nd a)) f
 | [],f=>rfl
 | (true,a)::r,f=>by rw[List.foldl_cons,lN nd r];rfl
 | (false,a)::r,f=>by rw[List.foldl_cons,lN nd r];rfl
def iB(nd:ai->Option Kv)(D:DS)(m:Nat)(t:ai):Prop:=(nd t).isNone=(D t).1/\((D t).1=false->∀y i,bb.lookup y=some i->i<=m->has (nd t) y=(D t).2 y)
theorem jN{α:Type}{f g:α->Bool}:∀{xs:List α},(∀a∈xs,f a=g a)->xs.any f=xs.any g
 | [],_=>rfl
 |a::r,h=>by rw[List.any_cons,List.any_cons,h a List.mem_cons_self,jN fun b hb=>h b (List.mem_cons_of_mem _ hb)]
theorem nF{nd:ai->Option Kv}{D:DS}{m:Nat}{as:List ai}(h:∀a∈as,iB nd D m a)(f:Option Kv)(hf:f.isNone=false):
  (as.foldl (fun f a=>bq f (nd a)) f).isNone=(as.any fun a=>(D a).1)/\((as.any fun a=>(D a).1)=false->∀y i,bb.lookup y=some i->i<=m->has (as.foldl (fun f a=>bq f (nd a)) f) y=(has f y||as.any fun a=>(D a).2 y)):=by
 have e:(as.any fun a=>(nd a).isNone)=as.any fun a=>(D a).1:=jN fun a ha=>(h a ha).1
 refine⟨by rw[nE,hf,e];rfl,fun hd y i ey hi=>?_⟩
 rw[vi nd y as f hf (by rw[e];exact hd)]
 congr 1
 refine jN fun a ha=>(h a ha).2 ?_ y i ey hi
 have:=List.any_eq_false.mp hd a ha
 simpa using this
theorem qo{fl:List Bool}{as:List ai}{a:ai}(h:a∈kq fl as):a∈as:=by
 unfold kq at h
 refine be (List.mem_map.mp h) fun p hp z2=>?_;subst z2
 exact(List.of_mem_zip (List.mem_filter.mp hp).1).2
theorem th{nd:ai->Option Kv}{D:DS}{m:Nat}{as:List ai}(h:∀a∈as,iB nd D m a)(fl:List Bool)(found:Kv)(hlen:¬as.length<fl.length):
  (db nd found (some ⟨fl,[],false⟩) as).isNone=((kq fl as).any fun a=>(D a).1)/\(((kq fl as).any fun a=>(D a).1)=false->∀y i,bb.lookup y=some i->i<=m->has (db nd found (some ⟨fl,[],false⟩) as) y=((found.lookup y).isSome||(kq fl as).any fun a=>(D a).2 y)):=by
 have e:db nd found (some ⟨fl,[],false⟩) as=(kq fl as).foldl (fun f a=>bq f (nd a)) (some found):=by
  unfold db
  dsimp only
  rw[if_neg hlen,if_neg (by decide),lN];rfl
 rw[e]
 exact nF (fun a ha=>h a (qo ha)) (some found) rfl
theorem qp{x y:Str}{i:Nat}(hx:x∈cf)(hy:bb.lookup y=some i):(([(x,kh)]:Kv).lookup y).isSome=false:=by
 rw[List.lookup_cons]
 induction e:y==x with
 |false=>rfl
 |true=>
  have:y=x:=by simpa using e
  subst this
  rw[Az _ hx]at hy;cases hy
theorem AA{x:Str}(h:x∈cf):x="add"∨x="look"∨x="stop"∨x="cell":=by simpa [cf]using h
theorem vj{nd:ai->Option Kv}{D:DS}{m:Nat}{as:List ai}{x:Str}(h:∀a∈as,iB nd D m a)(hx:x∈cf)(hl:1<=as.length):
  let r:=db nd [(x,kh)] (ay.lookup x) as
  let dd:=match aT D (.var x) as with|none=>true|some ts=>ts.any fun a=>(D a).1
  let ss:=fun y=>match aT D (.var x) as with|none=>false|some ts=>ts.any fun a=>(D a).2 y
  r.isNone=dd/\(dd=false->∀y i,bb.lookup y=some i->i<=m->has r y=ss y):=by
 have short:∀(fl:List Bool),eD x=some fl->as.length<fl.length->ay.lookup x=some ⟨fl,[],false⟩->(db nd [(x,kh)] (ay.lookup x) as).isNone=(match aT D (.var x) as with|none=>true|some ts=>ts.any fun a=>(D a).1)/\
   ((match aT D (.var x) as with|none=>true|some ts=>ts.any fun a=>(D a).1)=false->∀y i,bb.lookup y=some i->i<=m->has (db nd [(x,kh)] (ay.lookup x) as) y=(match aT D (.var x) as with|none=>false|some ts=>ts.any fun a=>(D a).2 y)):=by
  intro fl e1 e2 e3
  have es:aT D (.var x) as=some []:=by unfold aT;dsimp only;rw[e1];dsimp only;rw[if_pos e2]
  rw[e3,es]
  unfold db
  dsimp only
  rw[if_pos e2]
  exact⟨rfl,fun _ y i ey _=>qp hx ey⟩
 have full:∀(fl:List Bool),eD x=some fl->¬as.length<fl.length->ay.lookup x=some ⟨fl,[],false⟩->(db nd [(x,kh)] (ay.lookup x) as).isNone=(match aT D (.var x) as with|none=>true|some ts=>ts.any fun a=>(D a).1)/\
   ((match aT D (.var x) as with|none=>true|some ts=>ts.any fun a=>(D a).1)=false->∀y i,bb.lookup y=some i->i<=m->has (db nd [(x,kh)] (ay.lookup x) as) y=(match aT D (.var x) as with|none=>false|some ts=>ts.any fun a=>(D a).2 y)):=by
  intro fl e1 e2 e3
  have es:aT D (.var x) as=some (kq fl as):=by unfold aT;dsimp only;rw[e1];dsimp only;rw[if_neg e2]
  rw[e3,es]
  have:=th h fl [(x,kh)] e2
  refine⟨this.1,fun hd y i ey hi=>?_⟩
  rw[this.2 hd y i ey hi,qp hx ey];rfl
 have both:∀(fl:List Bool),eD x=some fl->ay.lookup x=some ⟨fl,[],false⟩->(db nd [(x,kh)] (ay.lookup x) as).isNone=(match aT D (.var x) as with|none=>true|some ts=>ts.any fun a=>(D a).1)/\
   ((match aT D (.var x) as with|none=>true|some ts=>ts.any fun a=>(D a).1)=false->∀y i,bb.lookup y=some i->i<=m->has (db nd [(x,kh)] (ay.lookup x) as) y=(match aT D (.var x) as with|none=>false|some ts=>ts.any fun a=>(D a).2 y)):=fun fl e1 e3=>by
  by_cases hh:as.length<fl.length
  ·exact short fl e1 hh e3
  ·exact full fl e1 hh e3
 dsimp only
 rcases AA hx with rfl|rfl|rfl|rfl
 ·exact both [true,true] (by decide+kernel) (by kernel_rfl)
 ·exact both [true,false] (by decide+kernel) (by kernel_rfl)
 ·have e1:eD "stop"=none:=by decide+kernel
  have e2:ay.lookup ("stop":Str)=some ⟨[true],[],true⟩:=by kernel_rfl
  have es:aT D (.var "stop") as=none:=by unfold aT;dsimp only;rw[e1]
  rw[es,e2]
  unfold db
  dsimp only
  rw[if_neg (by show¬as.length<1;lia),if_pos rfl]
  exact⟨rfl,fun q=>absurd q (by decide)⟩
 ·exact both [false] (by decide+kernel) (by kernel_rfl)
theorem vk{x y:Str}(h:y≠x):([x]:List Str).contains y=false:=by simpa using h
theorem vl{nd:ai->Option Kv}{D:DS}{m i:Nat}{a b:ai}{p:Str}(ha:iB nd D m a)(hb:iB nd D i b)(hp:bb.lookup p=some i)(hm:m<i):
  let r:=db nd [] (some (e8 nd [p] b)) [a]
  let dd:=match aT D (.lam [p] b) [a]with|none=>true|some ts=>ts.any fun a=>(D a).1
  let ss:=fun y=>hZ D (.lam [p] b) y||(match aT D (.lam [p] b) [a]with|none=>false|some ts=>ts.any fun a=>(D a).2 y)
  r.isNone=dd/\(dd=false->∀y j,bb.lookup y=some j->j<=m->has r y=ss y):=by
 dsimp only
 have es:aT D (.lam [p] b) [a]=if(D b).1=true then none else some (if(D b).2 p=true then [a]else []):=rfl
 rw[es]
 induction hk:nd b with
 |none=>
  have hd:(D b).1=true:=by rw[←hb.1,hk];rfl
  rw[if_pos hd]
  unfold e8 db
  rw[hk]
  dsimp only
  unfold eN
  dsimp only
  nofun
  exact⟨rfl,fun q=>absurd q (by decide)⟩
 |some k=>
  have hd:(D b).1=false:=by rw[←hb.1,hk];rfl
  have hs:=hb.2 hd
  rw[hk]at hs
  rw[if_neg (by rw[hd];decide)]
  have er:db nd [] (some (e8 nd [p] b)) [a]=fn nd (bq (some []) (a7 (some k) [p])) ((k.lookup p).isSome,a):=by
   unfold e8 db
   rw[hk]
   dsimp only
   nofun
   rfl
  rw[er]
  have hpp:(k.lookup p).isSome=(D b).2 p:=hs p i hp (Nat.le_refl _)
  have hfree:∀y j,bb.lookup y=some j->j<=m->has (bq (some []) (a7 (some k) [p])) y=(D b).2 y:=by
   intro y j ey hj
   rw[ib rfl rfl]
   rw[cL _ _ _ (vk (by rintro rfl;rw[hp]at ey;cases ey;exact Bh (bC hm hj)))]
   exact hs y j ey (by exact bC hj hm)
  unfold fn
  dsimp only
  rw[hpp]
  induction hq:(D b).2 p with
  |true=>
   rw[if_pos rfl,if_pos rfl]
   refine⟨by have q0:(bq (some []) (a7 (some k) [p])).isNone=false:=rfl
             rw[gu,q0,ha.1];simp,fun hdd y j ey hj=>?_⟩
   have hda:(D a).1=false:=by simpa using hdd
   rw[ib rfl (by rw[ha.1];exact hda),hfree y j ey hj,ha.2 hda y j ey hj]
   simp[hZ]
  |false=>
   rw[if_neg (by decide),if_neg (by decide)]
   refine⟨rfl,fun hdd y j ey hj=>?_⟩
   rw[hfree y j ey hj]
   simp[hZ]
theorem tl{nd:ai->Option Kv}{D:DS}{m i:Nat}{e a:ai}{o:Option ai}{x:Str}{q:Int}(he:iB nd D m e)(ha:iB nd D i a)(ho:∀t,o=some t->iB nd D i t)(hx:bb.lookup x=some i)(hm:m<i):
  let r:=bq (nd e) (cX (eQ nd x [(q,a)] o))
  let dd:=(D e).1||(cS [(q,a)] o).all fun w=>(D w).1
  let ss:=fun y=>(D e).2 y||((cS [(q,a)] o).filter fun w=> !(D w).1).all fun w=>(D w).2 y
  r.isNone=dd/\(dd=false->∀y j,bb.lookup y=some j->j<=m->has r y=ss y):=by
 dsimp only
 have hne:∀y j,bb.lookup y=some j->j<=m->([x]:List Str).contains y=false:=fun y j ey hj=>vk (by rintro rfl;rw[hx]at ey;cases ey;exact Bh (bC hm hj))
 have key:(cX (eQ nd x [(q,a)] o)).isNone=((cS [(q,a)] o).all fun w=>(D w).1)/\(((cS [(q,a)] o).all fun w=>(D w).1)=false->∀y j,bb.lookup y=some j->j<=m->has (cX (eQ nd x [(q,a)] o)) y=(((cS [(q,a)] o).filter fun w=> !(D w).1).all fun w=>(D w).2 y)):=by
  have ea:=ha.1
  induction o with
  |none=>
   have e1:cX (eQ nd x [(q,a)] none)=a7 (nd a) [x]:=by
    unfold cX eQ
    simp only[List.map_cons,List.map_nil,List.append_nil,List.foldl_cons,List.foldl_nil]
    cases nd a<;>rfl
   rw[e1]
   unfold cS
   simp only[List.map_cons,List.map_nil,Option.toList_none,List.append_nil,List.all_cons,List.all_nil,Bool.and_true]
   refine⟨by rw[ft];exact ea,fun hd y j ey hj=>?_⟩
   rw[cL _ _ _ (hne y j ey hj),ha.2 hd y j ey (by exact bC hj hm)]
   simp[hd]
  |some t=>
   have ht:=ho t rfl
   have et:=ht.1
   have e1:cX (eQ nd x [(q,a)] (some t))=eO (eO none (a7 (nd a) [x])) (a7 (nd t) [x]):=rfl
   rw[e1]
   unfold cS
   simp only[List.map_cons,List.map_nil,Option.toList_some,List.cons_append,List.nil_append,List.all_cons,List.all_nil,Bool.and_true]
   induction h1:nd a with
   |none=>
    rw[h1]at ea
    have da:(D a).1=true:=ea.symm
    have e2:eO (eO none (a7 none [x])) (a7 (nd t) [x])=a7 (nd t) [x]:=by cases nd t<;>rfl
    rw[e2,da]
    refine⟨by rw[ft];simpa using et,fun hd y j ey hj=>?_⟩
    have hdt:(D t).1=false:=by simpa using hd
    rw[cL _ _ _ (hne y j ey hj),ht.2 hdt y j ey (by exact bC hj hm)]
    simp[da,hdt]
   |some k1=>
    rw[h1]at ea
    have da:(D a).1=false:=ea.symm
    have sa:=ha.2 da
    rw[h1]at sa
    induction h2:nd t with
    |none=>
     rw[h2]at et
     have dt:(D t).1=true:=et.symm
     refine⟨by rw[da];rfl,fun hd y j ey hj=>?_⟩
     have e2:eO (eO none (a7 (some k1) [x])) (a7 none [x])=a7 (some k1) [x]:=rfl
     rw[e2,cL _ _ _ (hne y j ey hj),sa y j ey (by exact bC hj hm)]
     simp[da,dt]
    |some k2=>
     rw[h2]at et
     have dt:(D t).1=false:=et.symm
     have st:=ht.2 dt
     rw[h2]at st
     refine⟨by rw[da];rfl,fun hd y j ey hj=>?_⟩
     have w1:=cL (some k1) [x] y (hne y j ey hj)
     have w2:=cL (some k2) [x] y (hne y j ey hj)
     have e2:has (eO (eO none (a7 (some k1) [x])) (a7 (some k2) [x])) y=(has (a7 (some k1) [x]) y&&has (a7 (some k2) [x]) y):=by
      show((fK (ch _) _).lookup y).isSome=_
      rw[sk,nB];rfl
     rw[e2,w1,w2,sa y j ey (by exact bC hj hm),st y j ey (by exact bC hj hm)]
     simp[da,dt]
 refine⟨by rw[gu,he.1,key.1],fun hd y j ey hj=>?_⟩
 rw[Bool.or_eq_false_iff]at hd
 rw[ib (by rw[he.1];exact hd.1) (by rw[key.1];exact hd.2),he.2 hd.1 y j ey hj,key.2 hd.2 y j ey hj]
theorem gf{nd:ai->Option Kv}{k:Kv}{w:List (Str×ai)}{mo:Bool}{x:Str}{t:ai}(h1:w.lookup x=some t)(h2:(k.lookup x).isSome=true):aH nd ⟨some k,w,mo⟩ x=⟨bq (some k) (nd t),w.filter (fun p=>decide (p.1≠x)),true⟩:=by
 unfold aH;dsimp only;rw[h1];dsimp only;rw[if_pos h2]
theorem gN{nd:ai->Option Kv}{k:Kv}{w:List (Str×ai)}{mo:Bool}{x:Str}(h:(k.lookup x).isSome=false∨w.lookup x=none):aH nd ⟨some k,w,mo⟩ x=⟨some k,w,mo⟩:=by
 unfold aH
 dsimp only
 induction e:w.lookup x with
 |none=>rfl
 |some t=>
  rcases h with h|h
  ·dsimp only;rw[if_neg (by rw[h];decide)]
  ·rw[h]at e;cases e
theorem lO{nd:ai->Option Kv}{xs:List Str}{f:Nat}{w:List (Str×ai)}:bx nd xs f none w=none:=by cases f<;>rfl
theorem vZ{nd:ai->Option Kv}{x1 x2:Str}{f:Nat}{k:Kv}{w:List (Str×ai)}{s:WB}(h:aH nd (aH nd ⟨some k,w,false⟩ x1) x2=s):bx nd [x1,x2] (f+1) (some k) w=if s.more=true then bx nd [x1,x2] f s.needs s.waiting else s.needs:=by subst h;rfl
theorem o7{nd:ai->Option Kv}{x1 x2:Str}{f:Nat}{k:Kv}{w:List (Str×ai)}(h1:(k.lookup x1).isSome=false∨w.lookup x1=none)(h2:(k.lookup x2).isSome=false∨w.lookup x2=none):bx nd [x1,x2] (f+1) (some k) w=some k:=by
 rw[vZ (s:=⟨some k,w,false⟩) (by rw[gN h1,gN h2])];rfl
theorem o8{nd:ai->Option Kv}{xs:List Str}{f:Nat}:∀{o:Option Kv},(∀(x:Str),([]:List (Str×ai)).lookup x=none)->bx nd xs (f+1) o []=o:=by
 intro o h
 induction o with
 |none=>rfl
 |some k=>
  have:∀(ys:List Str),ys.foldl (aH nd) ⟨some k,[],false⟩=⟨some k,[],false⟩:=by
   intro ys
   induction ys with
   |nil=>rfl
   |cons y r ih=>rw[List.foldl_cons,gN (.inr rfl),ih]
  show(if(xs.foldl (aH nd) ⟨some k,[],false⟩).more=true then _ else(xs.foldl (aH nd) ⟨some k,[],false⟩).needs)=_
  rw[this];rfl
theorem iu{D:DS}{bs:List (Str×ai)}{f i:Nat}{found:List Str}(h:found[i]? =none):bR D bs (f+1) i found=found:=by
 show(match found[i]? with|none=>found|some x=>bR D bs f (i+1) (found++cK D bs found x))=found
 rw[h]
theorem gz{D:DS}{bs:List (Str×ai)}{f i:Nat}{found:List Str}{x:Str}(h:found[i]? =some x):bR D bs (f+1) i found=bR D bs f (i+1) (found++cK D bs found x):=by
 show(match found[i]? with|none=>found|some x=>bR D bs f (i+1) (found++cK D bs found x))=_
 rw[h]
theorem nG{D:DS}{bs:List (Str×ai)}{a:Str}:∀(f i:Nat) (found:List Str),a∈found->a∈bR D bs f i found:=by
 intro f
 induction f with
 |zero=>exact fun _ _ h=>h
 |succ f ih=>
  intro i found h
  induction e:found[i]? with
  |none=>rw[iu e];exact h
  |some x=>rw[gz e];exact ih _ _ (List.mem_append_left _ h)
theorem tm{nd:ai->Option Kv}{D:DS}{m i:Nat}{b t:ai}{x:Str}(hb:iB nd D i b)(ht:iB nd D i t)(hx:∃j,bb.lookup x=some j/\m<j/\j<=i):
  let r:=a7 (bx nd [x] 2 (nd b) [(x,t)]) [x]
  let R:=bm D [(x,t)] b
  let dd:=(D b).1||R.any fun x'=>(D (dj [(x,t)] x')).1
  let ss:=fun y=>(D b).2 y||R.any fun x'=>(D (dj [(x,t)] x')).2 y
  r.isNone=dd/\(dd=false->∀y j,bb.lookup y=some j->j<=m->has r y=ss y):=by
 dsimp only
 refine iz hx fun jx ex hmj hji=>?_
 have hne:∀y j,bb.lookup y=some j->j<=m->([x]:List Str).contains y=false:=fun y j ey hj=>vk (by rintro rfl;rw[ex]at ey;cases ey;exact Bh (bC hmj hj))
 rw[ft]
 have row:dj [(x,t)] x=t:=by unfold dj;rw[List.lookup_cons];simp
 induction hk:nd b with
 |none=>
  have hd:(D b).1=true:=by rw[←hb.1,hk];rfl
  rw[hd]
  exact⟨rfl,fun q=>absurd q (by simp)⟩
 |some k=>
  have hd:(D b).1=false:=by rw[←hb.1,hk];rfl
  have hs:=hb.2 hd
  rw[hk]at hs
  have hpp:(k.lookup x).isSome=(D b).2 x:=hs x jx ex hji
  rw[hd,Bool.false_or]
  induction hq:(D b).2 x with
  |false=>
   have e1:bx nd [x] 2 (some k) [(x,t)]=some k:=by
    rw[hq]at hpp
    show(if(aH nd ⟨some k,[(x,t)],false⟩ x).more=true then bx nd [x] 1 (aH nd ⟨some k,[(x,t)],false⟩ x).needs (aH nd ⟨some k,[(x,t)],false⟩ x).waiting else(aH nd ⟨some k,[(x,t)],false⟩ x).needs)=_
    rw[gN (.inl hpp)];rfl
   have e2:bm D [(x,t)] b=[]:=by
    show bR D _ 2 0 (List.filter _ [x])=[]
    rw[List.filter_cons,hq];rfl
   rw[e1,e2]
   refine⟨rfl,fun _ y j ey hj=>?_⟩
   rw[cL _ _ _ (hne y j ey hj),hs y j ey (by exact gi hj hmj hji)]
   simp
  |true=>
   have e1:bx nd [x] 2 (some k) [(x,t)]=bq (some k) (nd t):=by
    rw[hq]at hpp
    show(if(aH nd ⟨some k,[(x,t)],false⟩ x).more=true then bx nd [x] 1 (aH nd ⟨some k,[(x,t)],false⟩ x).needs (aH nd ⟨some k,[(x,t)],false⟩ x).waiting else(aH nd ⟨some k,[(x,t)],false⟩ x).needs)=_
    rw[gf (pB (beq_self_eq_true x)) hpp]
    show bx nd [x] 1 (bq (some k) (nd t)) (List.filter (fun p=>decide (p.1≠x)) [(x,t)])=_
    rw[show List.filter (fun p:Str×ai=>decide (p.1≠x)) [(x,t)]=[] by simp,o8 fun _=>rfl]
   have e2:bm D [(x,t)] b=[x]:=by
    show bR D _ 2 0 (List.filter _ [x])=[x]
    rw[List.filter_cons,hq]
    show bR D _ 2 0 [x]=[x]
    rw[gz (x:=x) rfl,show cK D [(x,t)] [x] x=[] by unfold cK;simp];rfl
   rw[e1,e2]
   simp only[List.any_cons,List.any_nil,Bool.or_false,row]
   refine⟨by rw[gu,ht.1];rfl,fun hdd y j ey hj=>?_⟩
   rw[cL _ _ _ (hne y j ey hj),ib rfl (by rw[ht.1];exact hdd),hs y j ey (by exact gi hj hmj hji),ht.2 hdd y j ey (by exact gi hj hmj hji)]
theorem bF(k:Kv)(y:Str):has (some k) y=(k.lookup y).isSome:=rfl
theorem tq{nd:ai->Option Kv}{D:DS}{m i:Nat}{b t1 t2:ai}{x1 x2:Str}(hb:iB nd D i b)(ht1:iB nd D i t1)(ht2:iB nd D i t2)(hx1:∃j,bb.lookup x1=some j/\m<j/\j<=i)(hx2:∃j,bb.lookup x2=some j/\m<j/\j<=i)(hne:x1≠x2):
  let bs:=[(x1,t1),(x2,t2)]
  let r:=a7 (bx nd [x1,x2] 3 (nd b) bs) [x1,x2]
  let R:=bm D bs b
  let dd:=(D b).1||R.any fun x'=>(D (dj bs x')).1
  let ss:=fun y=>(D b).2 y||R.any fun x'=>(D (dj bs x')).2 y
  r.isNone=dd/\(dd=false->∀y j,bb.lookup y=some j->j<=m->has r y=ss y):=by
 dsimp only
 refine iz hx1 fun j1 ex1 hm1 hi1=>?_
 refine iz hx2 fun j2 ex2 hm2 hi2=>?_
 have hcn:∀y j,bb.lookup y=some j->j<=m->([x1,x2]:List Str).contains y=false:=fun y j ey hj=>by
  have a1:y≠x1:=by rintro rfl;rw[ex1]at ey;cases ey;exact Bh (bC hm1 hj)
  have a2:y≠x2:=by rintro rfl;rw[ex2]at ey;cases ey;exact Bh (bC hm2 hj)
  simpa using ⟨a1,a2⟩
 have n12:(x1==x2)=false:=by simpa using hne
 have n21:(x2==x1)=false:=by simpa using Ne.symm hne
 rw[ft]
 have row1:dj [(x1,t1),(x2,t2)] x1=t1:=by unfold dj;rw[List.lookup_cons];simp
 have row2:dj [(x1,t1),(x2,t2)] x2=t2:=by unfold dj;rw[List.lookup_cons,n21,List.lookup_cons];simp
 induction hk:nd b with
 |none=>
  have hd:(D b).1=true:=by rw[←hb.1,hk];rfl
  rw[hd]
  exact⟨rfl,fun q=>absurd q (by simp)⟩
 |some k=>
  have hd:(D b).1=false:=by rw[←hb.1,hk];rfl
  have hs:=hb.2 hd
  rw[hk]at hs
  have p1:(D b).2 x1=(k.lookup x1).isSome:=(hs x1 j1 ex1 hi1).symm
  have p2:(D b).2 x2=(k.lookup x2).isSome:=(hs x2 j2 ex2 hi2).symm
  rw[hd,Bool.false_or]
  have d1:=ht1.1
  have d2:=ht2.1
  have s1:=ht1.2
  have s2:=ht2.2
  have F1:∀k1,nd t1=some k1->(D t1).1=false/\(D t1).2 x2=(k1.lookup x2).isSome/\∀y j,bb.lookup y=some j->j<=i->(D t1).2 y=has (some k1) y:=fun k1 e=>by
   have q:(D t1).1=false:=by rw[←d1,e];rfl
   rw[e]at s1
   exact⟨q,(s1 q x2 j2 ex2 hi2).symm,fun y j ey hj=>(s1 q y j ey hj).symm⟩
  have F2:∀k2,nd t2=some k2->(D t2).1=false/\(D t2).2 x1=(k2.lookup x1).isSome/\∀y j,bb.lookup y=some j->j<=i->(D t2).2 y=has (some k2) y:=fun k2 e=>by
   have q:(D t2).1=false:=by rw[←d2,e];rfl
   rw[e]at s2
   exact⟨q,(s2 q x1 j1 ex1 hi1).symm,fun y j ey hj=>(s2 q y j ey hj).symm⟩
  have G1:nd t1=none->(D t1).1=true:=fun e=>by rw[←d1,e];rfl
  have G2:nd t2=none->(D t2).1=true:=fun e=>by rw[←d2,e];rfl
  have gV:∀(o:Option Kv) (R:List Str),bx nd [x1,x2] 3 (some k) [(x1,t1),(x2,t2)]=o->bm D [(x1,t1),(x2,t2)] b=R->
    (o.isNone=(R.any fun x'=>(D (dj [(x1,t1),(x2,t2)] x')).1)/\∀q,o=some q->∀y j,bb.lookup y=some j->j<=m->has (some q) y=((D b).2 y||R.any fun x'=>(D (dj [(x1,t1),(x2,t2)] x')).2 y))->
    (bx nd [x1,x2] 3 (some k) [(x1,t1),(x2,t2)]).isNone=((bm D [(x1,t1),(x2,t2)] b).any fun x'=>(D (dj [(x1,t1),(x2,t2)] x')).1)/\
    (((bm D [(x1,t1),(x2,t2)] b).any fun x'=>(D (dj [(x1,t1),(x2,t2)] x')).1)=false->∀y j,bb.lookup y=some j->j<=m->has (a7 (bx nd [x1,x2] 3 (some k) [(x1,t1),(x2,t2)]) [x1,x2]) y=
      ((D b).2 y||(bm D [(x1,t1),(x2,t2)] b).any fun x'=>(D (dj [(x1,t1),(x2,t2)] x')).2 y)):=by
   rintro o R rfl rfl ⟨h1,h2⟩
   refine⟨h1,fun hdd y j ey hj=>?_⟩
   rw[cL _ _ _ (hcn y j ey hj)]
   induction hw:bx nd [x1,x2] 3 (some k) [(x1,t1),(x2,t2)]with
   |none=>rw[hw,hdd]at h1;cases h1
   |some q=>exact h2 q hw y j ey hj
  have f1:([(x1,t1),(x2,t2)]:List (Str×ai)).filter (fun p=>decide (p.1≠x1))=[(x2,t2)]:=by simp[Ne.symm hne]
  have f2:([(x1,t1),(x2,t2)]:List (Str×ai)).filter (fun p=>decide (p.1≠x2))=[(x1,t1)]:=by simp[hne]
  have f3:([(x2,t2)]:List (Str×ai)).filter (fun p=>decide (p.1≠x2))=[]:=by simp
  have f4:([(x1,t1)]:List (Str×ai)).filter (fun p=>decide (p.1≠x1))=[]:=by simp
  have l1:([(x1,t1),(x2,t2)]:List (Str×ai)).lookup x1=some t1:=by simp
  have l2:([(x1,t1),(x2,t2)]:List (Str×ai)).lookup x2=some t2:=by rw[List.lookup_cons,n21];simp
  have l3:([(x2,t2)]:List (Str×ai)).lookup x2=some t2:=by simp
  have l4:([(x1,t1)]:List (Str×ai)).lookup x1=some t1:=by simp
  have l5:([(x2,t2)]:List (Str×ai)).lookup x1=none:=by rw[List.lookup_cons,n12];rfl
  have l6:([(x1,t1)]:List (Str×ai)).lookup x2=none:=by rw[List.lookup_cons,n21];rfl
  have bN:∀a:Kv,bq (some a) none=none:=fun a=>rfl
  have bS:∀a b:Kv,bq (some a) (some b)=some (merged a b):=fun a b=>rfl
  have dead1:x1∈bm D [(x1,t1),(x2,t2)] b->(D t1).1=true->((bm D [(x1,t1),(x2,t2)] b).any fun x'=>(D (dj [(x1,t1),(x2,t2)] x')).1)=true:=fun h q=>List.any_eq_true.mpr ⟨x1,h,by rw[row1];exact q⟩
  have dead2:x2∈bm D [(x1,t1),(x2,t2)] b->(D t2).1=true->((bm D [(x1,t1),(x2,t2)] b).any fun x'=>(D (dj [(x1,t1),(x2,t2)] x')).1)=true:=fun h q=>List.any_eq_true.mpr ⟨x2,h,by rw[row2];exact q⟩
  have st0:([(x1,t1),(x2,t2)].map (·.1)).filter (fun o=>(D b).2 o)=(if(D b).2 x1=true then [x1]else [])++(if(D b).2 x2=true then [x2]else []):=by
   cases h1:(D b).2 x1<;>cases h2:(D b).2 x2<;>simp[h1,h2]
  have mo1:cK D [(x1,t1),(x2,t2)] [x1] x1=if(D t1).2 x2=true then [x2]else []:=by
   unfold cK;rw[row1]
   cases h2:(D t1).2 x2<;>simp[h2,Ne.symm hne]
  have mo2:cK D [(x1,t1),(x2,t2)] [x2] x2=if(D t2).2 x1=true then [x1]else []:=by
   unfold cK;rw[row2]
   cases h2:(D t2).2 x1<;>simp[h2,hne]
  have mo3:∀x,cK D [(x1,t1),(x2,t2)] [x1,x2] x=[]:=fun x=>by unfold cK;simp
  have mo4:∀x,cK D [(x1,t1),(x2,t2)] [x2,x1] x=[]:=fun x=>by unfold cK;simp
  cases hA:(k.lookup x1).isSome<;>cases hB:(k.lookup x2).isSome<;>rw[hA]at p1<;>rw[hB]at p2
  ·exact gV (some k) [] (o7 (.inl hA) (.inl hB)) (by unfold bm;rw[st0,p1,p2];rfl) ⟨rfl,fun q e y j ey hj=>by cases e;rw[hs y j ey (by exact gi hj hm1 hi1)];simp⟩
  · --x2 first
    have hx2R:x2∈bm D [(x1,t1),(x2,t2)] b:=by unfold bm;rw[st0,p1,p2];exact nG _ _ _ List.mem_cons_self
    have w1:aH nd (aH nd ⟨some k,[(x1,t1),(x2,t2)],false⟩ x1) x2=⟨bq (some k) (nd t2),[(x1,t1)],true⟩:=by rw[gN (.inl hA),gf l2 hB,f2]
    induction h2:nd t2 with
    |none=>
     refine gV none _ (by rw[vZ w1,if_pos rfl,h2];exact lO) rfl ⟨?_,fun q e=>by cases e⟩
     rw[dead2 hx2R (G2 h2)];rfl
    |some k2=>
     refine nT (F2 k2 h2) fun g1 g2 g3=>?_
     have hx1k:((merged k k2).lookup x1).isSome=(D t2).2 x1:=by rw[dL,hA,g2];rfl
     induction hC:(D t2).2 x1 with
     |false=>
      rw[hC]at hx1k
      refine gV (some (merged k k2)) [x2] (by rw[vZ w1,if_pos rfl,h2,bS];exact o7 (.inl hx1k) (.inr l6)) ?_ ⟨?_,fun q e y j ey hj=>?_⟩
      ·unfold bm;rw[st0,p1,p2]
       show bR _ _ 2 1 ([x2]++cK D _ [x2] x2)=_
       rw[mo2,hC];rfl
      ·simp only[List.any_cons,List.any_nil,Bool.or_false,row2,g1];rfl
      ·cases e
       simp only[List.any_cons,List.any_nil,Bool.or_false,row2]
       rw[bF,dL,←bF,←bF,hs y j ey (by exact gi hj hm1 hi1),g3 y j ey (by exact gi hj hm1 hi1)]
     |true=>
      rw[hC]at hx1k
      have w2:aH nd (aH nd ⟨some (merged k k2),[(x1,t1)],false⟩ x1) x2=⟨bq (some (merged k k2)) (nd t1),[],true⟩:=by
       rw[gf l4 hx1k,f4]
       cases bq (some (merged k k2)) (nd t1)with
       |none=>rfl
       |some q=>exact gN (.inr rfl)
      have e3:bx nd [x1,x2] 3 (some k) [(x1,t1),(x2,t2)]=bq (some (merged k k2)) (nd t1):=by
       rw[vZ w1,if_pos rfl,h2,bS]
       dsimp only
       rw[vZ w2,if_pos rfl]
       exact o8 fun _=>rfl
      have eR:bm D [(x1,t1),(x2,t2)] b=[x2,x1]:=by
       unfold bm;rw[st0,p1,p2]
       show bR _ _ 2 1 ([x2]++cK D _ [x2] x2)=_
       rw[mo2,hC]
       show bR _ _ 1 2 ([x2,x1]++cK D _ [x2,x1] x1)=_
       rw[mo4];rfl
      induction h1:nd t1 with
      |none=>
       refine gV none _ (by rw[e3,h1];rfl) eR ⟨?_,fun q e=>by cases e⟩
       simp only[List.any_cons,List.any_nil,Bool.or_false,row2,row1,G1 h1];simp
      |some k1=>
       refine nT (F1 k1 h1) fun u1 u2 u3=>?_
       refine gV (some (merged (merged k k2) k1)) _ (by rw[e3,h1];rfl) eR ⟨?_,fun q e y j ey hj=>?_⟩
       ·simp only[List.any_cons,List.any_nil,Bool.or_false,row2,row1,g1,u1];rfl
       ·cases e
        simp only[List.any_cons,List.any_nil,Bool.or_false,row2,row1]
        rw[bF,dL,dL,←bF,←bF,←bF,hs y j ey (by exact gi hj hm1 hi1),g3 y j ey (by exact gi hj hm1 hi1),u3 y j ey (by exact gi hj hm1 hi1),Bool.or_assoc]
  · --x1 alone at first
    have hx1R:x1∈bm D [(x1,t1),(x2,t2)] b:=by unfold bm;rw[st0,p1,p2];exact nG _ _ _ List.mem_cons_self
    induction h1:nd t1 with
    |none=>
     have w1:aH nd (aH nd ⟨some k,[(x1,t1),(x2,t2)],false⟩ x1) x2=⟨none,[(x2,t2)],true⟩:=by rw[gf l1 hA,f1,h1];rfl
     refine gV none _ (by rw[vZ w1,if_pos rfl];exact lO) rfl ⟨?_,fun q e=>by cases e⟩
     rw[dead1 hx1R (G1 h1)];rfl
    |some k1=>
     refine nT (F1 k1 h1) fun g1 g2 g3=>?_
     have hx2k:((merged k k1).lookup x2).isSome=(D t1).2 x2:=by rw[dL,hB,g2];rfl
     induction hC:(D t1).2 x2 with
     |false=>
      rw[hC]at hx2k
      have w1:aH nd (aH nd ⟨some k,[(x1,t1),(x2,t2)],false⟩ x1) x2=⟨some (merged k k1),[(x2,t2)],true⟩:=by rw[gf l1 hA,f1,h1,bS,gN (.inl hx2k)]
      refine gV (some (merged k k1)) [x1] (by rw[vZ w1,if_pos rfl];exact o7 (.inr l5) (.inl hx2k)) ?_ ⟨?_,fun q e y j ey hj=>?_⟩
      ·unfold bm;rw[st0,p1,p2]
       show bR _ _ 2 1 ([x1]++cK D _ [x1] x1)=_
       rw[mo1,hC];rfl
      ·simp only[List.any_cons,List.any_nil,Bool.or_false,row1,g1];rfl
      ·cases e
       simp only[List.any_cons,List.any_nil,Bool.or_false,row1]
       rw[bF,dL,←bF,←bF,hs y j ey (by exact gi hj hm1 hi1),g3 y j ey (by exact gi hj hm1 hi1)]
     |true=>
      rw[hC]at hx2k
      have w1:aH nd (aH nd ⟨some k,[(x1,t1),(x2,t2)],false⟩ x1) x2=⟨bq (some (merged k k1)) (nd t2),[],true⟩:=by rw[gf l1 hA,f1,h1,bS,gf l3 hx2k,f3]
      have e3:bx nd [x1,x2] 3 (some k) [(x1,t1),(x2,t2)]=bq (some (merged k k1)) (nd t2):=by
       rw[vZ w1,if_pos rfl]
       exact o8 fun _=>rfl
      have eR:bm D [(x1,t1),(x2,t2)] b=[x1,x2]:=by
       unfold bm;rw[st0,p1,p2]
       show bR _ _ 2 1 ([x1]++cK D _ [x1] x1)=_
       rw[mo1,hC]
       show bR _ _ 1 2 ([x1,x2]++cK D _ [x1,x2] x2)=_
       rw[mo3];rfl
      induction h2:nd t2 with
      |none=>
       refine gV none _ (by rw[e3,h2];rfl) eR ⟨?_,fun q e=>by cases e⟩
       simp only[List.any_cons,List.any_nil,Bool.or_false,row2,row1,G2 h2];simp
      |some k2=>
       refine nT (F2 k2 h2) fun u1 u2 u3=>?_
       refine gV (some (merged (merged k k1) k2)) _ (by rw[e3,h2];rfl) eR ⟨?_,fun q e y j ey hj=>?_⟩
       ·simp only[List.any_cons,List.any_nil,Bool.or_false,row2,row1,g1,u1];rfl
       ·cases e
        simp only[List.any_cons,List.any_nil,Bool.or_false,row2,row1]
        rw[bF,dL,dL,←bF,←bF,←bF,hs y j ey (by exact gi hj hm1 hi1),g3 y j ey (by exact gi hj hm1 hi1),u3 y j ey (by exact gi hj hm1 hi1),Bool.or_assoc]
  · --both at first
    have eR:bm D [(x1,t1),(x2,t2)] b=[x1,x2]:=by
     unfold bm;rw[st0,p1,p2]
     show bR _ _ 2 1 ([x1,x2]++cK D _ [x1,x2] x1)=_
     rw[mo3]
     show bR _ _ 1 2 ([x1,x2]++cK D _ [x1,x2] x2)=_
     rw[mo3];rfl
    induction h1:nd t1 with
    |none=>
     have w1:aH nd (aH nd ⟨some k,[(x1,t1),(x2,t2)],false⟩ x1) x2=⟨none,[(x2,t2)],true⟩:=by rw[gf l1 hA,f1,h1];rfl
     refine gV none _ (by rw[vZ w1,if_pos rfl];exact lO) eR ⟨?_,fun q e=>by cases e⟩
     simp only[List.any_cons,List.any_nil,Bool.or_false,row2,row1,G1 h1];simp
    |some k1=>
     refine nT (F1 k1 h1) fun g1 g2 g3=>?_
     have hx2k:((merged k k1).lookup x2).isSome=true:=by rw[dL,hB];rfl
     have w1:aH nd (aH nd ⟨some k,[(x1,t1),(x2,t2)],false⟩ x1) x2=⟨bq (some (merged k k1)) (nd t2),[],true⟩:=by rw[gf l1 hA,f1,h1,bS,gf l3 hx2k,f3]
     have e3:bx nd [x1,x2] 3 (some k) [(x1,t1),(x2,t2)]=bq (some (merged k k1)) (nd t2):=by
      rw[vZ w1,if_pos rfl]
      exact o8 fun _=>rfl
     induction h2:nd t2 with
     |none=>
      refine gV none _ (by rw[e3,h2];rfl) eR ⟨?_,fun q e=>by cases e⟩
      simp only[List.any_cons,List.any_nil,Bool.or_false,row2,row1,G2 h2];simp
     |some k2=>
      refine nT (F2 k2 h2) fun u1 u2 u3=>?_
      refine gV (some (merged (merged k k1) k2)) _ (by rw[e3,h2];rfl) eR ⟨?_,fun q e y j ey hj=>?_⟩
      ·simp only[List.any_cons,List.any_nil,Bool.or_false,row2,row1,g1,u1];rfl
      ·cases e
       simp only[List.any_cons,List.any_nil,Bool.or_false,row2,row1]
       rw[bF,dL,dL,←bF,←bF,←bF,hs y j ey (by exact gi hj hm1 hi1),g3 y j ey (by exact gi hj hm1 hi1),u3 y j ey (by exact gi hj hm1 hi1),Bool.or_assoc]
theorem xB:∀(n m:Nat) (t:ai),Gd n m t->iB (a8 n ay) (ds n) m t:=by
 intro n
 induction n with
 |zero=>intro _ _ h;exact h.elim
 |succ n ih=>
  intro m t h
  induction t using ai.cs with
  |var x=>
   refine⟨rfl,fun _ y i ey hi=>?_⟩
   show(([(x,kh)]:Kv).lookup y).isSome=(x==y)
   rw[List.lookup_cons]
   by_cases e:y=x
   ·subst e;simp
   ·have e1:(y==x)=false:=by simpa using e
    have e2:(x==y)=false:=by simpa using Ne.symm e
    rw[e1,e2];rfl
  |lit i=>exact⟨rfl,fun _ y i ey hi=>rfl⟩
  |con x as=>exact⟨rfl,fun _ y i ey hi=>rfl⟩
  |lam ps b=>exact⟨rfl,fun _ y i ey hi=>rfl⟩
  |prim op as=>
   rcases h.1 with rfl|rfl
   ·exact⟨rfl,fun q=>absurd q (by show¬(true=false);decide)⟩
   ·have:=nF (nd:=a8 n ay) (D:=ds n) (m:=m) (as:=as) (fun a ha=>ih m a (h.2.2 a ha)) (some []) rfl
    have e1:(("intAdd":Str)==("error":Str))=false:=by decide+kernel
    have e2:a8 (n+1) ay (.prim "intAdd" as)=as.foldl (fun f a=>bq f (a8 n ay a)) (some []):=by
     show(if(("intAdd":Str)==("error":Str))=true then none else qg (a8 n ay) as)=_
     rw[e1];rfl
    have e3:(ds (n+1) (.prim "intAdd" as)).1=as.any fun a=>(ds n a).1:=by
     show((("intAdd":Str)==("error":Str))||_)=_
     rw[e1];rfl
    unfold iB
    rw[e2,e3]
    refine⟨this.1,fun hd y i ey hi=>?_⟩
    rw[this.2 hd y i ey hi];rfl
  |app f as=>
   refine ye h fun h1 h2 h3 h4=>?_
   have ha:∀a∈as,iB (a8 n ay) (ds n) m a:=fun a ha=>ih m a (h3 a ha)
   induction f using ai.cs<;>first|exact h4.elim|skip
   ·rename_i x
    have:=vj ha h4 h1
    refine⟨this.1,fun hd y i ey hi=>?_⟩
    have e:(ds (n+1) (.app (.var x) as)).2 y=(false||(match aT (ds n) (.var x) as with|none=>false|some ts=>ts.any fun a=>(ds n a).2 y)):=rfl
    rw[e,Bool.false_or]
    exact this.2 hd y i ey hi
   ·rename_i ps b
    refine ff h4 fun hl hb=>?_
    have hb':=hb
    induction n using dQ with
    |zero=>exact hb.elim
    |succ n'=>
     refine sI hb fun p i z2 e2 e3 e4=>?_;subst z2
     refine dP (List.length_eq_one_iff.mp hl) fun a z1=>?_;subst z1
     exact vl (ha a List.mem_cons_self) (ih i b (e4.up (Nat.le_succ _))) e2 e3
  |case e x alts o=>
   obtain⟨h1,h2,i,h3,h4,h5,h6⟩:=h
   obtain⟨⟨q,a⟩,rfl⟩:=List.length_eq_one_iff.mp h1
   exact tl (ih m e h2) (ih i a (h5 (q,a) List.mem_cons_self).2) (fun t ht=>ih i t (h6 t ht)) h3 h4
  |letn bs b r=>
   obtain⟨h1,h2,hl,h3,i,h4,h5,h6⟩:=h
   induction bs using bD with
   |nil=>cases h1
   |cons p1 bs=>
    obtain⟨x1,t1⟩:=p1
    induction bs using bD with
    |nil=>exact tm (ih i b h6) (ih i t1 (h5 (x1,t1) List.mem_cons_self).2) (h5 (x1,t1) List.mem_cons_self).1
    |cons p2 bs=>
     obtain⟨x2,t2⟩:=p2
     induction bs using bD with
     |cons _ _=>simp at h2
     |nil=>
      exact tq (ih i b h6) (ih i t1 (h5 (x1,t1) (by simp)).2) (ih i t2 (h5 (x2,t2) (by simp)).2) (h5 (x1,t1) (by simp)).1 (h5 (x2,t2) (by simp)).1 (by simpa using h3)
theorem tr{n i:Nat}{bs:List (Str×ai)}{b:ai}{r:Bool}(hb:Gd n i b)(hx:∀p∈bs,∃j,bb.lookup p.1=some j/\j<=i):ei n ay bs b r=eI n bs b r:=by
 match bs with
 | []=>rfl
 |_::_::_=>rfl
 | [(x,t)]=>
   have hs:=xB n i b hb
   refine be (hx (x,t) List.mem_cons_self) fun j ej hj=>?_
   unfold ei eI
   dsimp only
   induction hk:a8 n ay b with
   |none=>
    have:(ds n b).1=true:=by rw[←hs.1,hk];rfl
    rw[this];simp
   |some k=>
    have hd:(ds n b).1=false:=by rw[←hs.1,hk];rfl
    have:=hs.2 hd x j ej hj
    rw[hk]at this
    rw[hd,←this,bF];simp
theorem ic{b:Str}{i j:Nat}(h:bl b i=bl b j):i=j:=by
 unfold bl at h
 have h1:(b.cps++(Str.ofString (toString (i:Int))).cps)=(b.cps++(Str.ofString (toString (j:Int))).cps):=congrArg Str.cps h
 have h2:=congrArg Array.toList h1
 rw[Array.toList_append,Array.toList_append]at h2
 have h3:=List.append_cancel_left h2
 rw[KIN.signs_num,KIN.signs_num]at h3
 have hinj:∀(xs ys:List Char),xs.map Char.toNat=ys.map Char.toNat->xs=ys:=by
  intro xs
  induction xs with
  |nil=>intro ys h;induction ys using bD with
   |nil=>rfl
   |cons y r=>cases h
  |cons x r ih=>intro ys h;induction ys using bD with
   |nil=>cases h
   |cons y s=>
    rw[List.map_cons,List.map_cons,List.cons.injEq]at h
    rw[ih s h.2,Char.toNat_inj.mp h.1]
 have h4:=hinj _ _ h3
 have:=congrArg (fun l=>Nat.ofDigitChars 10 l 0) h4
 simpa using this
theorem ig(k:Nat):aB k=bl (("arg":Str)++(".":Str)) k:=rfl
theorem lP{b:Str}{k i c:Nat}(h:b.cps[i]? =some c):(bl b k).cps[i]? =some c:=by
 unfold bl
 show(b.cps++_)[i]? =_
 rw[Array.getElem?_append,if_pos]
 ·exact h
 ·exact(Array.getElem?_eq_some_iff.mp h).1
noncomputable def mT(x:Str):Bool:=(bb.lookup x).isSome||cf.contains x
noncomputable def sm:List Str:=bb.map (·.1)++cf
theorem qq{x:Str}(h:mT x=true):x∈sm:=by
 unfold mT at h
 rw[Bool.or_eq_true]at h
 unfold sm
 rcases h with h|h
 ·refine List.mem_append_left _ ?_
  induction e:bb.lookup x with
  |none=>rw[e]at h;cases h
  |some i=>exact List.mem_map.mpr ⟨_,mem_of_lookup e,rfl⟩
 ·exact List.mem_append_right _ (by simpa using h)
theorem AB:∀x∈sm,x.cps[0]? ≠some 107:=by decide+kernel
theorem AC:∀x∈sm,x.cps[1]? ≠some 114:=by decide+kernel
theorem AD{x:Str}(h:mT x=true)(k:Nat):x≠aB k:=by
 rintro rfl
 exact AC _ (qq h) (by rw[ig];exact lP (by decide+kernel))
theorem CX{x:Str}(h:mT x=true)(k:Nat):x≠bj k:=by
 rintro rfl
 exact AB _ (qq h) (lP (by decide+kernel))
theorem fX(h:Kv)(x:Str)(v:Value)(y:Str):ge (stored h x v) y=if(y==x)=true then v else ge h y:=by
 unfold ge
 rw[eJ]
 split<;>rfl
theorem kE(h:Kv)(x:Str)(v:Value):ge (stored h x v) x=v:=by rw[fX];simp
theorem kF{h:Kv}{x y:Str}{v:Value}(hn:y≠x):ge (stored h x v) y=ge h y:=by
 rw[fX,if_neg (by simpa using hn)]
def AG(h1 h2:Kv):Prop:=∀x,mT x=true->ge h1 x=ge h2 x
theorem AG.same{h1 h2:Kv}(h:AG h1 h2)(x:Str)(v:Value):AG (stored h1 x v) (stored h2 x v):=fun y hy=>by
 rw[fX,fX]
 split
 ·rfl
 ·exact h y hy
theorem AG.bind{h1 h2:Kv}(h:AG h1 h2)(ps:List Str)(ks:List Nat):AG (eB h1 ps ks) (eB h2 ps ks):=by
 unfold eB
 generalize ps.zip ks=zs
 induction zs generalizing h1 h2 with
 |nil=>exact h
 |cons z r ih=>rw[List.foldl_cons,List.foldl_cons];exact ih (h.same _ _)
theorem AG.fresh{h1 h2:Kv}(h:AG h1 h2)(a b:Nat)(v:Value):AG (stored h1 (aB a) v) (stored h2 (bj b) v):=fun y hy=>by
 rw[kF (AD hy a),kF (CX hy b)]
 exact h y hy
theorem AL.up1:∀{n:Nat} {h1 h2:Kv} {t1 t2:ai},AL n h1 h2 t1 t2->AL (n+1) h1 h2 t1 t2:=by
 intro n
 induction n with
 |zero=>intro h1 h2 t1 t2 h;exact h.elim
 |succ n ih=>
  intro h1 h2 t1 t2 h
  induction t1 using ai.cs<;>induction t2 using ai.cs<;>first|exact h.elim|exact h|skip
  ·exact⟨h.1,h.2.1,Paired.imp (fun _ _ q=>ih q) h.2.2⟩
  ·exact⟨h.1,h.2.1,Paired.imp (fun _ _ q=>ih q) h.2.2⟩
  ·exact⟨h.1,h.2.1,fun ks hk=>ih (h.2.2 ks hk)⟩
  ·exact⟨h.1,ih h.2.1,Paired.imp (fun _ _ q=>ih q) h.2.2⟩
  ·rename_i e x al o e' y al' o'
   refine⟨h.1,ih h.2.1,fun k=>⟨Paired.imp (fun _ _ q=>⟨q.1,ih q.2⟩) (h.2.2 k).1,?_⟩⟩
   have:=(h.2.2 k).2
   induction o<;>cases o'<;>first|exact this|exact ih this
  ·exact⟨h.1,h.2.1,h.2.2.1,fun ks hk=>⟨Paired.imp (fun _ _ q=>ih q) (h.2.2.2 ks hk).1,ih (h.2.2.2 ks hk).2⟩⟩
theorem AL.up{n:Nat}{h1 h2:Kv}{t1 t2:ai}(h:AL n h1 h2 t1 t2){m:Nat}(hm:n<=m):AL m h1 h2 t1 t2:=by
 induction hm with
 |refl=>exact h
 |step _ ih=>exact ih.up1
def PA(N:Nat)(a b:ai):Prop:=∀h1 h2,AG h1 h2->AL N h1 h2 a b
theorem PA.up{N M:Nat}{a b:ai}(h:PA N a b)(hm:N<=M):PA M a b:=fun h1 h2 g=>AL.up (h h1 h2 g) hm
theorem PA.var{N:Nat}{x:Str}(h:mT x=true):PA (N+1) (.var x) (.var x):=fun h1 h2 g=>g x h
theorem rz{N:Nat}{f g:ai}{as bs:List ai}(hl:as.length<=4)(hf:PA N f g)(h:PySem.Paired (PA N) as bs):PA (N+1) (.app f as) (.app g bs):=fun h1 h2 ag=>⟨hl,hf h1 h2 ag,Paired.imp (fun _ _ q=>q h1 h2 ag) h⟩
theorem qr{N p q:Nat}{v w f g:ai}(hv:PA N v w)(h:∀h1 h2 (k:Nat),AG h1 h2->AL N (stored h1 (aB p) (.int k 0)) (stored h2 (bj q) (.int k 0)) f g):PA (N+1) (.case v (aB p) [] (some f)) (.case w (bj q) [] (some g)):=
 fun h1 h2 ag=>⟨by simp,hv h1 h2 ag,fun k=>⟨.nil,h h1 h2 k ag⟩⟩
theorem vm{N p q p' q':Nat}{v w v' w' f g:ai}(hv:PA (N+1) v w)(hv':PA N v' w')
  (h:∀h1 h2 (k k':Nat),AG h1 h2->AL N (stored (stored h1 (aB p) (.int k 0)) (aB p') (.int k' 0)) (stored (stored h2 (bj q) (.int k 0)) (bj q') (.int k' 0)) f g):
  PA (N+2) (.case v (aB p) [] (some (.case v' (aB p') [] (some f)))) (.case w (bj q) [] (some (.case w' (bj q') [] (some g)))):=
 fun h1 h2 ag=>⟨by simp,hv h1 h2 ag,fun k=>⟨.nil,⟨by simp,hv' _ _ (ag.fresh p q _),fun k'=>⟨.nil,h h1 h2 k k' ag⟩⟩⟩⟩
theorem AE{a b:Nat}(h:a≠b):aB a≠aB b:=fun e=>h (ic (b:=("arg":Str)++(".":Str)) (by rw[←ig,←ig];exact e))
theorem CY{a b:Nat}(h:a≠b):bj a≠bj b:=fun e=>h (ic e)
theorem o9{N p q:Nat}{h1 h2:Kv}{k:Nat}:AL (N+1) (stored h1 (aB p) (.int k 0)) (stored h2 (bj q) (.int k 0)) (.var (aB p)) (.var (bj q)):=by
 show ge _ _=ge _ _
 rw[kE,kE]
theorem xC{N p q p' q':Nat}{h1 h2:Kv}{k k':Nat}(hp:p≠p')(hq:q≠q'):AL (N+1) (stored (stored h1 (aB p) (.int k 0)) (aB p') (.int k' 0)) (stored (stored h2 (bj q) (.int k 0)) (bj q') (.int k' 0)) (.var (aB p)) (.var (bj q)):=by
 show ge _ _=ge _ _
 rw[kF (AE hp),kF (CY hq),kE,kE]
theorem AG.fresh2{h1 h2:Kv}(h:AG h1 h2)(a b a' b':Nat)(v v':Value):AG (stored (stored h1 (aB a) v) (aB a') v') (stored (stored h2 (bj b) v) (bj b') v'):=(h.fresh a b v).fresh a' b' v'
theorem gO{N:Nat}{f g:Nat->ai->ai×Nat}:∀{as:List ai} (k j:Nat),(∀a∈as,∀k j,PA N (f k a).1 (g j a).1)->PySem.Paired (PA N) (aZ f k as).1 (aZ g j as).1
 | [],k,j,h=> .nil
 |a::r,k,j,h=> .cons (h a List.mem_cons_self k j) (gO _ _ fun b hb=>h b (List.mem_cons_of_mem _ hb))
theorem j7{N:Nat}{f g:Nat->ai->ai×Nat}:∀{as:List (Int×ai)} (k j:Nat),(∀a∈as,∀k j,PA N (f k a.2).1 (g j a.2).1)->PySem.Paired (fun(p q:Int×ai)=>p.1=q.1/\PA N p.2 q.2) (ci f k as).1 (ci g j as).1
 | [],k,j,h=> .nil
 |a::r,k,j,h=> .cons ⟨rfl,h a List.mem_cons_self k j⟩ (j7 _ _ fun b hb=>h b (List.mem_cons_of_mem _ hb))
theorem j8{N:Nat}{f g:Nat->ai->ai×Nat}:∀{as:List (Str×ai)} (k j:Nat),(∀a∈as,∀k j,PA N (f k a.2).1 (g j a.2).1)->PySem.Paired (fun(p q:Str×ai)=>p.1=q.1/\PA N p.2 q.2) (bO f k as).1 (bO g j as).1
 | [],k,j,h=> .nil
 |a::r,k,j,h=> .cons ⟨rfl,h a List.mem_cons_self k j⟩ (j8 _ _ fun b hb=>h b (List.mem_cons_of_mem _ hb))
theorem jO(f:Nat->ai->ai×Nat):∀(as:List (Str×ai)) (k:Nat),(bO f k as).1.map (·.1)=as.map (·.1)
 | [],k=>rfl
 |a::r,k=>by rw[List.map_cons,←jO f r (f k a.2).2];rfl
theorem rA{N:Nat}{h1 h2:Kv}{f g:ai}{as bs:List ai}(hl:as.length<=4)(hf:AL N h1 h2 f g)(h:PySem.Paired (AL N h1 h2) as bs):AL (N+1) h1 h2 (.app f as) (.app g bs):=⟨hl,hf,h⟩
noncomputable def aw(nm:Nat->Str)(k:Nat)(x1 x2:ai)(R:List ai):Bool->Bool->Ah
 |true,true=>⟨x1::x2::R,[],k⟩
 |false,true=>⟨.var (nm (k+1))::x2::R,[(nm (k+1),x1)],k+1⟩
 |true,false=>⟨x1:: .var (nm (k+1))::R,[(nm (k+1),x2)],k+1⟩
 |false,false=>⟨.var (nm (k+1)):: .var (nm (k+1+1))::R,[(nm (k+1),x1),(nm (k+1+1),x2)],k+1+1⟩
theorem pd(nm:Nat->Str)(a1 a2:ai)(r:List ai)(x1 x2:ai)(R:List ai)(k:Nat)(b:Bool):ct nm (some ⟨[true,b],[],false⟩) (a1::a2::r) (x1::x2::R) k=aw nm k x1 x2 R (de a1) (!b||de a2):=by
 have n1:¬R.length+1+1<2:=Nat.not_lt.mpr (Nat.le_add_left 2 _)
 show(if R.length+1+1<2 then(⟨x1::x2::R,[],k⟩:Ah)else cw nm [true,b] (a1::a2::r) (cw nm [true,b] (a1::a2::r) ⟨x1::x2::R,[],k⟩ 0) 1)=_
 rw[if_neg n1,fA (S:=⟨x1::x2::R,[],k⟩) (i:=0) rfl rfl rfl]
 cases de a1 with
 |true=>induction b with
  |false=>rfl
  |true=>
   show cw nm [true,true] (a1::a2::r) ⟨x1::x2::R,[],k⟩ 1=_
   rw[fA (S:=⟨x1::x2::R,[],k⟩) (i:=1) rfl rfl rfl]
   cases de a2<;>rfl
 |false=>induction b with
  |false=>rfl
  |true=>
   show cw nm [true,true] (a1::a2::r) ⟨.var (nm (k+1))::x2::R,[(nm (k+1),x1)],k+1⟩ 1=_
   rw[fA (S:=⟨.var (nm (k+1))::x2::R,[(nm (k+1),x1)],k+1⟩) (i:=1) rfl rfl rfl]
   cases de a2<;>rfl
theorem pe(nm:Nat->Str)(a1:ai)(r:List ai)(x1:ai)(R:List ai)(k:Nat):ct nm (some ⟨[false],[],false⟩) (a1::r) (x1::R) k=⟨x1::R,[],k⟩:=by
 show(if R.length+1<1 then(⟨x1::R,[],k⟩:Ah)else cw nm [false] (a1::r) ⟨x1::R,[],k⟩ 0)=_
 rw[if_neg (Nat.not_lt.mpr (Nat.le_add_left 1 _)),fA (S:=⟨x1::R,[],k⟩) (i:=0) rfl rfl rfl];rfl
theorem xD{N k j:Nat}{f g:ai}{fl:List Bool}{as A B:List ai}(hfl:fl=[true,true]∨fl=[true,false]∨fl=[false])(hl:1<=as.length)(qH:as.length<=3)(hA:A.length=as.length)(hf:PA (N+1) f g)(h:PySem.Paired (PA (N+1)) A B):
  PA (N+4) (gS (ct aB (some ⟨fl,[],false⟩) as A k).ahead (.app f (ct aB (some ⟨fl,[],false⟩) as A k).args)) (gS (ct bj (some ⟨fl,[],false⟩) as B j).ahead (.app g (ct bj (some ⟨fl,[],false⟩) as B j).args)):=by
 have hB:B.length=as.length:=by rw[←hA];exact h.length.symm
 have plain:PA (N+4) (.app f A) (.app g B):=(rz (by exact bC (Nat.le_of_eq hA) qH) hf h).up (by lia)
 have short:as.length<fl.length->PA (N+4) (gS (ct aB (some ⟨fl,[],false⟩) as A k).ahead (.app f (ct aB (some ⟨fl,[],false⟩) as A k).args)) (gS (ct bj (some ⟨fl,[],false⟩) as B j).ahead (.app g (ct bj (some ⟨fl,[],false⟩) as B j).args)):=fun q=>by
  unfold ct
  dsimp only
  rw[if_neg (by decide),if_pos (by exact bC (Nat.le_of_eq hA) q),if_neg (by decide),if_pos (by exact bC (Nat.le_of_eq hB) q)]
  exact plain
 have eV:∀(a1 a2:ai) (r:List ai) (x1 x2:ai) (R1:List ai) (y1 y2:ai) (R2:List ai),as=a1::a2::r->A=x1::x2::R1->B=y1::y2::R2->PA (N+1) x1 y1->PA (N+1) x2 y2->PySem.Paired (PA (N+1)) R1 R2->R1.length<=2->
   PA (N+4) (gS (ct aB (some ⟨fl,[],false⟩) as A k).ahead (.app f (ct aB (some ⟨fl,[],false⟩) as A k).args)) (gS (ct bj (some ⟨fl,[],false⟩) as B j).ahead (.app g (ct bj (some ⟨fl,[],false⟩) as B j).args)):=by
  rintro a1 a2 r x1 x2 R1 y1 y2 R2 rfl rfl rfl p1 p2 pr hr
  have e3:∀{N:Nat} {h1 h2:Kv},AG h1 h2->PySem.Paired (PA N) R1 R2->PySem.Paired (AL N h1 h2) R1 R2:=fun ag h=>Paired.imp (fun _ _ q=>q _ _ ag) h
  have two1:PA (N+4) (.case x1 (aB (k+1)) [] (some (.app f (.var (aB (k+1))::x2::R1)))) (.case y1 (bj (j+1)) [] (some (.app g (.var (bj (j+1))::y2::R2)))):=
   qr (p1.up (by lia)) fun h1 h2 q ag=>AL.up (n:=N+2) (rA (by simp;lia) (hf _ _ (ag.fresh _ _ _)) (.cons o9 (.cons (p2 _ _ (ag.fresh _ _ _)) (e3 (ag.fresh _ _ _) pr)))) (by lia)
  have two2:PA (N+4) (.case x2 (aB (k+1)) [] (some (.app f (x1:: .var (aB (k+1))::R1)))) (.case y2 (bj (j+1)) [] (some (.app g (y1:: .var (bj (j+1))::R2)))):=
   qr (p2.up (by lia)) fun h1 h2 q ag=>AL.up (n:=N+2) (rA (by simp;lia) (hf _ _ (ag.fresh _ _ _)) (.cons (p1 _ _ (ag.fresh _ _ _)) (.cons o9 (e3 (ag.fresh _ _ _) pr)))) (by lia)
  have two12:PA (N+4) (.case x1 (aB (k+1)) [] (some (.case x2 (aB (k+1+1)) [] (some (.app f (.var (aB (k+1)):: .var (aB (k+1+1))::R1)))))) (.case y1 (bj (j+1)) [] (some (.case y2 (bj (j+1+1)) [] (some (.app g (.var (bj (j+1)):: .var (bj (j+1+1))::R2)))))):=
   vm (N:=N+2) (p1.up (by lia)) (p2.up (by lia)) fun h1 h2 q q' ag=>rA (by simp;lia) (hf _ _ (ag.fresh2 _ _ _ _ _ _)) (.cons (xC (by lia) (by lia)) (.cons o9 (e3 (ag.fresh2 _ _ _ _ _ _) pr)))
  rcases hfl with rfl|rfl|rfl
  ·rw[pd,pd]
   cases de a1<;>cases de a2
   ·exact two12
   ·exact two1
   ·exact two2
   ·exact plain
  ·rw[pd,pd]
   cases de a1
   ·exact two1
   ·exact plain
  ·rw[pe,pe];exact plain
 cases h with
 |nil=>rw[←hA]at hl;cases hl
 |cons p1 h=>
  induction as using bD with
  |nil=>cases hA
  |cons a1 as=>
   cases h with
   |nil=>
    induction as using bD with
    |cons _ _=>cases hA
    |nil=>
     rcases hfl with rfl|rfl|rfl
     ·exact short (by simp)
     ·exact short (by simp)
     ·rw[pe,pe];exact plain
   |cons p2 pr=>
    induction as using bD with
    |nil=>cases hA
    |cons a2 r=>exact eV a1 a2 r _ _ _ _ _ _ rfl rfl rfl p1 p2 pr (by simp at hA qH;exact bC (Nat.le_of_eq hA) qH)
theorem tt{x:Str}(h:x∈cf):(x="stop"/\ay.lookup x=some ⟨[true],[],true⟩/\eD x=none)∨∃fl,(fl=[true,true]∨fl=[true,false]∨fl=[false])/\ay.lookup x=some ⟨fl,[],false⟩/\eD x=some fl:=by
 rcases AA h with rfl|rfl|rfl|rfl
 ·exact .inr ⟨[true,true],.inl rfl,by kernel_rfl,by decide+kernel⟩
 ·exact .inr ⟨[true,false],.inr (.inl rfl),by kernel_rfl,by decide+kernel⟩
 ·exact .inl ⟨rfl,by kernel_rfl,by decide+kernel⟩
 ·exact .inr ⟨[false],.inr (.inr rfl),by kernel_rfl,by decide+kernel⟩
theorem xE{x:Str}(h:(bb.lookup x).isSome=true):mT x=true:=by unfold mT;rw[h];rfl
theorem vn{x:Str}(h:x∈cf):mT x=true:=by
 unfold mT
 have:cf.contains x=true:=by simpa using h
 rw[this];simp
theorem tu:∀(n m:Nat) (t:ai),Gd n m t->∀k j,PA (3*n+1) (ak ay n k t).1 (aF n j t).1:=by
 intro n
 induction n with
 |zero=>intro _ _ h _ _;exact h.elim
 |succ n ih=>
  intro m t h k j
  induction t using ai.cs with
  |var x=>exact PA.var (xE h)
  |lit i=>exact fun _ _ _=>rfl
  |prim op as=>exact fun h1 h2 ag=>⟨rfl,by rw[cR];have:=h.2.1;lia,Paired.imp (fun _ _ q=>AL.up (q _ _ ag) (by lia)) (gO (N:=3*n+1) k j fun a ha k j=>ih m a (h.2.2 a ha) k j)⟩
  |con op as=>exact fun h1 h2 ag=>⟨rfl,by rw[cR];have:=h.2.1;lia,Paired.imp (fun _ _ q=>AL.up (q _ _ ag) (by lia)) (gO (N:=3*n+1) k j fun a ha k j=>ih m a (h.2.2 a ha) k j)⟩
  |lam ps b=>
   refine sI h fun p i z2 e2 e3 e4=>?_;subst z2
   exact fun h1 h2 ag=>⟨rfl,by simp,fun ks hk=>AL.up (ih i b e4 k j _ _ (ag.bind _ _)) (by lia)⟩
  |app f as=>
   refine ye h fun h1 h2 h3 h4=>?_
   have ha:∀k j,PySem.Paired (PA (3*n+1)) (aZ (ak ay n) k as).1 (aZ (aF n) j as).1:=fun k j=>gO k j fun a ha k j=>ih m a (h3 a ha) k j
   induction f using ai.cs<;>first|exact h4.elim|skip
   ·rename_i x
    have hv:PA (3*n+1) (.var x) (.var x):=PA.var (vn h4)
    have e1:∀k,(ak ay n k (.var x)).1= .var x:=fun k=>by induction n<;>rfl
    have e2:∀k,(aF n k (.var x)).1= .var x:=fun k=>by induction n<;>rfl
    show PA (3*n+4) (gS (ct aB (ay.lookup x) as (aZ (ak ay n) k as).1 (aZ (ak ay n) k as).2).ahead (.app (ak ay n _ (.var x)).1 (ct aB (ay.lookup x) as (aZ (ak ay n) k as).1 (aZ (ak ay n) k as).2).args)) (gS (ct bj (cy (.var x)) as (aZ (aF n) j as).1 (aZ (aF n) j as).2).ahead (.app (aF n _ (.var x)).1 (ct bj (cy (.var x)) as (aZ (aF n) j as).1 (aZ (aF n) j as).2).args))
    rw[e1,e2]
    rcases tt h4 with⟨rfl,q1,q2⟩ | ⟨fl,hfl,q1,q2⟩
    ·have q3:cy (.var "stop")=none:=by unfold cy;dsimp only;rw[q2];rfl
     rw[q1,q3]
     exact(rz (N:=3*n+1) (by rw[cR];lia) hv (ha k j)).up (by lia)
    ·have q3:cy (.var x)=some ⟨fl,[],false⟩:=by unfold cy;dsimp only;rw[q2];rfl
     rw[q1,q3]
     exact xD hfl h1 h2 (by rw[cR]) hv (ha k j)
   ·rename_i ps b
    exact(rz (N:=3*n+1) (by rw[cR];lia) (ih m (.lam ps b) h4.2 _ _) (ha k j)).up (by lia)
  |case e x alts o=>
   refine nT h fun h1 h2 zr=>?_;refine yf zr fun i h3 h4 h5 h6=>?_
   refine fun g1 g2 ag=>⟨by rw[lI];lia,AL.up (ih m e h2 _ _ _ _ ag) (by lia),fun q=>⟨Paired.imp (fun _ _ w=>⟨w.1,AL.up (w.2 _ _ (ag.same x _)) (by lia)⟩) (j7 (N:=3*n+1) k j fun a ha k j=>ih i a.2 (h5 a ha).2 k j),?_⟩⟩
   induction o with
   |none=>trivial
   |some t=>exact AL.up (ih i t (h6 t rfl) _ _ _ _ (ag.same x _)) (by lia)
  |letn bs b r=>
   refine tL h fun h1 h2 hl h3 zr=>?_;refine iz zr fun i h4 h5 h6=>?_
   have hb:∀k j,PA (3*n+1) (ak ay n k b).1 (aF n j b).1:=fun k j=>ih i b h6 k j
   have hbs:∀k j,PySem.Paired (fun(p q:Str×ai)=>p.1=q.1/\PA (3*n+1) p.2 q.2) (bO (ak ay n) k bs).1 (bO (aF n) j bs).1:=fun k j=>j8 k j fun a ha k j=>ih i a.2 (h5 a ha).2 k j
   have htc:ei n ay bs b r=eI n bs b r:=tr h6 fun p hp=>let ⟨j,a,_,c⟩:=(h5 p hp).1;⟨j,a,c⟩
   show PA (3*n+4) (qn (ei n ay bs b r) (bO (ak ay n) (ak ay n k b).2 bs).1 (ak ay n k b).1 r) (qn (eI n bs b r) (bO (aF n) j bs).1 (aF n (bO (aF n) j bs).2 b).1 r)
   rw[htc]
   have rest:PA (3*n+4) (.letn (bO (ak ay n) (ak ay n k b).2 bs).1 (ak ay n k b).1 r) (.letn (bO (aF n) j bs).1 (aF n (bO (aF n) j bs).2 b).1 r):=by
    refine fun g1 g2 ag=>⟨rfl,by rw[eo,eo],by rw[eo];lia,fun ks hk=>?_⟩
    rw[jO,jO]
    refine⟨Paired.imp (fun _ _ w=>AL.up (w.2 _ _ ?_) (by lia)) (hbs _ _),AL.up (hb _ _ _ _ (ag.bind _ _)) (by lia)⟩
    induction r with
    |true=>exact ag.bind _ _
    |false=>exact ag
   induction hc:eI n bs b r with
   |false=>exact rest
   |true=>
    induction bs using bD with
    |nil=>cases hc
    |cons xt bs=>
     obtain⟨x,t⟩:=xt
     induction bs using bD with
     |cons _ _=>cases hc
     |nil=>
     refine fun g1 g2 ag=>⟨by simp,AL.up (n:=3*n+1) ?_ (by lia),fun q=>⟨.nil,AL.up (hb _ _ _ _ (ag.same x _)) (by lia)⟩⟩
     cases hbs (ak ay n k b).2 j with|cons w _=>
     exact w.2 _ _ ag
theorem iR{V:St}:∀bs:List Bool,kY V (bs.map .bool) (bs.map PyData.bool)
 | []=> .nil
 |b::r=> .cons (.bool b) (iR r)
theorem jP(b:Bool):∀bs:List Bool,((bs.map PyData.bool).any fun y=>PyData.eqv y (.bool b))=bs.contains b
 | []=>rfl
 |a::r=>by
  rw[List.map_cons,List.any_cons,jP b r,List.contains_cons]
  induction a<;>induction b<;>rfl
theorem gB{α:Type}(f:α->Bool)(xs:List α):(xs.map f).contains true=xs.any f:=by
 induction xs with
 |nil=>rfl
 |cons a r ih=>rw[List.map_cons,List.contains_cons,ih,List.any_cons];cases f a<;>rfl
theorem nH{α:Type}(f:α->Bool)(xs:List α):(!(xs.map f).contains false)=xs.all f:=by
 induction xs with
 |nil=>rfl
 |cons a r ih=>rw[List.map_cons,List.contains_cons,Bool.not_or,ih,List.all_cons];cases f a<;>rfl
def tO(V:St):Prop:=∃a1 a2 a4 ep,V 804=some (.ro (.dict [("add",.ref a1),("look",.ref a2),("stop",.none),("cell",.ref a4)] ep))/\V a1=some (.ro (.list [.bool true,.bool true]))/\V a2=some (.ro (.list [.bool true,.bool false]))/\V a4=some (.ro (.list [.bool false]))
theorem tO.mono{V V':St}(h:tO V)(L:Ro V V'):tO V':=by obtain⟨a1,a2,a4,ep,h1,h2,h3,h4⟩:=h;exact⟨a1,a2,a4,ep,L _ _ h1,L _ _ h2,L _ _ h3,L _ _ h4⟩
def yy(n:Nat)(V:St)(v:Value):Option (List ai)->Prop
 |none=>v= .none
 |some ts=>∃a vs,v= .ref a/\V a=some (.ro (.list vs))/\PySem.Paired (Rp n V) vs ts
theorem yy.mono{n:Nat}{V V':St}(L:Ro V V'):∀{v:Value} {o:Option (List ai)},yy n V v o->yy n V' v o
 |_,none,h=>h
 |_,some _,⟨a,vs,e,h,hp⟩=>⟨a,vs,e,L _ _ h,Paired.imp (fun _ _ q=>q.mono L) hp⟩
theorem yy.plain{n:Nat}{V:St}{v:Value}{o:Option (List ai)}(h:yy n V v o):∀id,v≠ .builtin id:=by
 intro id q
 induction o with
 |none=>rw[h]at q;cases q
 |some k=>refine fM h fun a vs e _=>?_;rw[e]at q;cases q
theorem yy.none{n:Nat}{V:St}{v:Value}{o:Option (List ai)}(h:yy n V v o):(v== .none)=o.isNone:=by
 induction o with
 |none=>rw[h];rfl
 |some k=>refine fM h fun a vs e _=>?_;rw[e];rfl
def qt(c:Cx)(n:Nat):Prop:=∀{V:St} {v:Value} {t:ai} {m:Nat} {Q:Value->St->Prop},Rp n V v t->Gd n m t->tO V->
 (∀V',Le [] V V'->Q (.bool (ds n t).1) V')->ab c (20*n+10) (.ref 832) [v] V Q
def nI(c:Cx)(n:Nat):Prop:=∀{V:St} {v:Value} {t:ai} {m:Nat} {y:Str} {Q:Value->St->Prop},Rp n V v t->Gd n m t->tO V->
 (∀V',Le [] V V'->Q (.bool ((ds n t).2 y)) V')->ab c (20*n+10) (.ref 837) [.str y 0,v] V Q
noncomputable def lQ(fl:List Bool)(as:List ai)(i:Nat):List ai:=(((fl.zip as).take i).filter (·.1)).map (·.2)
theorem tw{fl:List Bool}{as:List ai}(h:fl.length<=as.length):lQ fl as fl.length=kq fl as:=by
 unfold lQ kq
 rw[List.take_of_length_le (by rw[List.length_zip];exact Nat.min_le_left _ _)]
theorem rB{fl:List Bool}{as:List ai}{i:Nat}{b:Bool}{t:ai}(h1:fl[i]? =some b)(h2:as[i]? =some t):lQ fl as (i+1)=if b=true then lQ fl as i++ [t]else lQ fl as i:=by
 unfold lQ
 have:(fl.zip as)[i]? =some (b,t):=by rw[List.getElem?_zip_eq_some];exact⟨h1,h2⟩
 rw[am this,List.filter_append,List.map_append]
 induction b<;>simp
theorem yz{V:St}{x:Str}(h:tO V)(hx:x∈cf):∃ep kvs,V 804=some (.ro (.dict kvs ep))/\((x="stop"/\eD x=none/\kvs.lookup x=some .none)∨∃fl a,eD x=some fl/\fl.length<=2/\kvs.lookup x=some (.ref a)/\V a=some (.ro (.list (fl.map .bool)))):=by
 refine Dp h fun a1 a2 a4 ep h1 h2 h3 h4=>?_
 refine⟨ep,_,h1,?_⟩
 rcases AA hx with rfl|rfl|rfl|rfl
 ·exact .inr ⟨[true,true],a1,by decide+kernel,by decide,by kernel_rfl,h2⟩
 ·exact .inr ⟨[true,false],a2,by decide+kernel,by decide,by kernel_rfl,h3⟩
 ·exact .inl ⟨rfl,by decide+kernel,by kernel_rfl⟩
 ·exact .inr ⟨[false],a4,by decide+kernel,by decide,by kernel_rfl,h4⟩
section
variable{c:Cx}{d n:Nat}{env:Env}{l:au}{V:St}{p pos:Pos}{Q:Value->St->Prop}{QB:Bool->St->Prop}{QF:Fl->au->St->Prop}{QL:au->St->Prop}{ns:List (Str×NameKind)}
theorem jQ{a:Addr}{bs:List Bool}{b:Bool}(hr:rd V a=some (.list (bs.map .bool)))(hd:1<=d)(h:Q (.bool (bs.contains b)) V):J2 c d (compareOp .In) (.bool b) (.ref a) V Q:=
 yl (.bool b) (.inl (.list hr (iR bs))) rfl (iq bs) (by rw[fW];simp;exact bK hd) (by rw[jP];exact h)
theorem sn{a:Addr}{bs:List Bool}{b:Bool}(hr:rd V a=some (.list (bs.map .bool)))(hd:1<=d)(h:Q (.bool (!bs.contains b)) V):J2 c d (compareOp .NotIn) (.bool b) (.ref a) V Q:=
 yU (.bool b) (.inl (.list hr (iR bs))) rfl (iq bs) (by rw[fW];simp;exact bK hd) (by rw[jP];exact h)
theorem so(KT:HK c){v:Value}{e:ai}{x:Str}{alts:List (Int×ai)}{o:Option ai}(h1:Rp (n+1) V v (.case e x alts o))(hl:alts.length<=4)
  (h:∀a vs V',Le [] V V'->V' a=some (.ro (.list vs))->PySem.Paired (Rp n V') vs (cS alts o)->Q (.ref a) V'):ab c 3 (.ref 822) [v] V Q:=by
 refine ab.frz (cZ (x0:="expr") KT ?_)
 intro env K
 try dsimp only at K
 refine rO h1 fun xv a avs ov i1 i2 i3 i4 i5=>?_
 nofun
 refine ao i1 KT (aK _) (bZ _) rfl rfl ?_
 refine⟨_,ax (af i3),fun cenv CK=>?_⟩
 let F:I4:=fun i acc l' V' G=>Le [] V V'->∀rs,acc= .l rs->PySem.Paired (Rp n V') rs ((alts.take i).map (·.2))->G
 refine aq avs F ?_ ?_ ?_ avs.length 0 (Nat.zero_add _) (by exact fun _ k=>k (.refl ..) ([]) rfl .nil)
 ·rintro i acc l' V' L - - -
  exact aE (af (L.ro _ _ i3)) i
 ·rintro i y acc l' V' hy R hR L rs rfl hrs
  obtain⟨⟨ki,t⟩,ht,ka,na,bv,g1,g2,g3,g4⟩:=Paired.get i4 hy
  nofun
  refine ao (g1.mono L.ro) KT (bV _) (du _) rfl g4.hand ?_
  refine⟨by rw[hrs.length,List.length_map,List.length_take];exact sz (by lia),(hR _ _ _ _ fun _ k=>k L _ rfl ?_)⟩
  rw[am ht,List.map_append]
  exact Paired.snoc' hrs (g4.mono L.ro)
 ·rintro acc l' V' L rs rfl hrs
  rw[show alts.take avs.length=alts from List.take_of_length_le (by rw[i4.length];exact Nat.le_refl _)]at hrs
  intro la hla
  unfold Mine.gG
  have LA:Le [] V' (V'.set la (.list rs)):= .new hla
  nofun
  refine ao (i1.mono (L.trans LA).ro) KT (aK _) (bg _) rfl ?_ ?_
  ·induction o with
   |none=>rw[i5];rfl
   |some t=>exact i5.hand
  nofun
  refine gZ ?_ ?_
  ·intro id q
   induction o with
   |none=>rw[i5]at q;cases q
   |some t=>refine v7 i5.ia fun _ x _ e _=>?_;rw[e]at q;cases q
  induction o with
  |none=>
   rw[i5]
   nofun
   refine⟨[la],h _ rs _ (aR (L.trans LA) (by simpa using L.none0 hla nn)) (aN List.mem_cons_self (aj ..) rfl) ?_⟩
   unfold cS
   rw[Option.toList_none,List.append_nil]
   exact Paired.imp (fun _ _ q=>q.mono (fun b q hb=>aD _ _ _ _ (LA.ro _ _ hb))) hrs
  |some t=>
   have hov:(ov==Value.none)=false:=by obtain⟨_,x,_,e,_⟩:=i5.ia;rw[e];rfl
   rw[hov]
   nofun
   refine ao (i1.mono (L.trans LA).ro) KT (aK _) (bg _) rfl i5.hand ?_
   nofun
   refine⟨bW rfl,fun lb hlb=>?_⟩
   have LB:=LA.new1 hlb (o:= .list [ov])
   have hne:la≠lb:=Ne.symm (aO hlb (aj ..))
   have hrl:rs.length<=4:=by rw[hrs.length,List.length_map];exact hl
   refine dW (vs:=rs) (ws:=[ov]) (af (o:= .list rs) (by rw[aA _ _ hne];exact aj ..)) (af (aj ..)) (by simp;lia) fun lc hlc=>?_
   nofun
   have LC:=LB.new1 hlc (o:= .list (rs++ [ov]))
   have h0:V lc=none:=L.none0 (LB.none0 hlc nn) nn
   refine⟨[lc],h _ (rs++ [ov]) _ (aR (L.trans LC) (by simpa using h0)) (aN List.mem_cons_self (aj ..) rfl) ?_⟩
   have R1:Ro V' (fzs (((V'.set la (.list rs)).set lb (.list [ov])).set lc (.list (rs++ [ov]))) [lc]):=fun b q hb=>aD _ _ _ _ (LC.ro _ _ hb)
   exact Paired.snoc' (Paired.imp (fun _ _ q=>q.mono R1) hrs) ((i5.mono L.ro).mono R1)
end
section
variable{c:Cx}{d n:Nat}{env:Env}{l:au}{V:St}{p pos:Pos}{Q:Value->St->Prop}{QB:Bool->St->Prop}{QF:Fl->au->St->Prop}{QL:au->St->Prop}{ns:List (Str×NameKind)}
theorem Rp.varR{v:Value}{x:Str}(h:Rp n V v (.var x)):IA V v 59 [("name",.str x 0)]:=by
 induction n using dQ with
 |zero=>exact h.elim
 |succ n=>exact h
theorem nJ(KT:HK c)(ihD:qt c n)(ihS:nI c n){v:Value}{f:ai}{as:List ai}{m:Nat}(h1:Rp (n+1) V v (.app f as))(hg:Gd (n+1) m (.app f as))(hF:tO V)
  (h:∀r V',Le [] V V'->yy n V' r (aT (ds n) f as)->Q r V'):ab c (20*n+13) (.ref 817) [v] V Q:=by
 refine ab.frz (cZ (x0:="expr") KT ?_)
 intro env K
 try dsimp only at K
 refine ku h1 fun fv a vs i1 i2 i3 i4=>?_
 refine ye hg fun q1 q2 q3 q4=>?_
 nofun
 refine ao i1 KT (aS _) (aU _) rfl i2.hand ?_
 nofun
 refine d9 KT i2 rfl ?_
 nofun
 induction f using ai.cs<;>first|exact q4.elim|skip
 · --a name
   rename_i x
   have iv:=i2.varR
   refine bz (by rw[show(bh (ai.var x)==183)=false from rfl];decide) ?_
   nofun
   refine fM (yz hF q4) fun ep kvs b1 b2=>?_
   refine k8 (af b1) ⟨trivial,?_⟩
   nofun
   refine ao i1 KT (aS _) (aU _) rfl i2.hand ?_
   refine ao iv KT (dE _) (bT _) rfl rfl ?_
   nofun
   refine⟨bW rfl,fun ea hea=>?_⟩
   have L1:Le [] V (V.set ea (.list [])):= .new hea
   nofun
   refine ld (af (L1.ro _ _ b1)) ?_
   nofun
   rcases b2 with⟨rfl,u1,u2⟩ | ⟨fl,fa,u1,u2,u3,u4⟩
   ·rw[u2]
    refine gZ (fun id q=>by cases q) ?_
    nofun
    refine⟨[],h _ _ L1 ?_⟩
    unfold aT
    dsimp only
    rw[u1];rfl
   ·rw[u3]
    refine gZ (fun id q=>by cases q) ?_
    nofun
    refine ao (i1.mono L1.ro) KT (aS _) (bH _) rfl rfl ?_
    nofun
    refine cg (.inl (af (L1.ro _ _ i3))) (by rw[i4.length];lia) ?_
    nofun
    refine cg (.inl (af (L1.ro _ _ u4))) (by rw[List.length_map];lia) ?_
    refine m7 ?_
    nofun
    rw[List.length_map,i4.length]
    by_cases hlt:as.length<fl.length
    ·refine bu (by simp;lia) ?_
     nofun
     refine⟨bW rfl,fun eb heb=>?_⟩
     have L2:=L1.new1 heb (o:= .list [])
     refine⟨[eb],h _ _ (aR L2 (by simpa using L1.none0 heb nn)) ?_⟩
     have:aT (ds n) (.var x) as=some []:=by unfold aT;dsimp only;rw[u1];dsimp only;rw[if_pos hlt]
     rw[this]
     exact⟨eb,[],rfl,aN List.mem_cons_self (aj ..) rfl,.nil⟩
    ·refine bz (by simp;exact bK (Nat.le_of_not_lt hlt)) ?_
     nofun
     refine cg (.inl (af (L1.ro _ _ u4))) (by rw[List.length_map];lia) ?_
     nofun
     refine eH fun ra hra=>?_
     rw[List.length_map]
     have L2:=L1.new1 hra (o:= .range (fl.length:Nat))
     refine⟨_,dh (af (aj ..)) (by lia),fun cenv CK=>?_⟩
     let F:I4:=fun i acc l' V' G=>V'=((V.set ea (.list [])).set ra (.range (fl.length:Nat)))->Lk l' "expr" v->Lk l' "flags" (.ref fa)->∀rs,acc= .l rs->rs.length<=i->PySem.Paired (Rp n V) rs (lQ fl as i)->G
     refine aq ((List.range fl.length).map fun(j:Nat)=>Value.int (j:Int) 0) F ?_ ?_ ?_ fl.length 0 (by simp)
      (by exact fun _ k=>k rfl (by rfl') (by rfl') ([]) rfl (Nat.le_refl _) .nil)
     ·rintro i acc l' V' rfl - - - - - -
      exact dH _ _
     ·rintro i y acc l' V' hy R hR rfl eK fZ rs rfl hrl hrs
      rw[List.getElem?_map,Option.map_eq_some_iff]at hy
      refine be hy fun j hj z2=>?_;subst z2
      obtain⟨hlt2,he⟩:=List.getElem?_eq_some_iff.mp hj
      rw[List.getElem_range]at he
      subst he
      rw[List.length_range]at hlt2
      obtain⟨fb,hfb⟩:∃fb,fl[i]? =some fb:=⟨_,List.getElem?_eq_getElem hlt2⟩
      obtain⟨t,hat⟩:∃t,as[i]? =some t:=⟨_,List.getElem?_eq_getElem (by exact bC hlt2 (Nat.le_of_not_lt hlt))⟩
      refine be (Paired.get2 i4 hat) fun xv hxv hxr=>?_
      nofun
      refine⟨aL (af (L2.ro _ _ u4)),aP (i:=i) (.inl (af (L2.ro _ _ u4))) rfl (by rw[List.getElem?_map,hfb];rfl) (by lia) ?_⟩
      nofun
      have hps:=rB hfb hat
      induction fb with
      |false=>
       nofun
       exact(fun _ k=>k rfl (dD (by kernel_rfl) eK) (dD (by kernel_rfl) fZ) rs rfl (by exact bK hrl) (by rw[hps];exact hrs))
      |true=>
       nofun
       refine ao (i1.mono L2.ro) KT (aS _) (bH _) rfl rfl ?_
       nofun
       refine⟨aL (af (L2.ro _ _ i3)),aP (i:=i) (.inl (af (L2.ro _ _ i3))) rfl hxv (by lia) ?_⟩
       exact⟨by rw[sizeLine_eq];exact gi hrl hlt2 u2,(hR _ _ _ _ fun _ k=>k rfl (dD (by kernel_rfl) eK) (dD (by kernel_rfl) fZ) _ rfl (by rw[List.length_append];simp;lia) (by rw[hps];exact Paired.snoc' hrs hxr))⟩
     ·rintro acc l' V' rfl eK fZ rs rfl hrl hrs
      have e:((List.range fl.length).map fun(j:Nat)=>Value.int (j:Int) 0).length=fl.length:=by simp
      rw[e,tw (by exact bK (Nat.le_of_not_lt hlt))]at hrs
      intro la hla
      unfold Mine.gG
      have L3:=L2.new1 hla (o:= .list rs)
      refine⟨[la],h _ _ (aR L3 (by simpa using L2.none0 hla nn)) ?_⟩
      have:aT (ds n) (.var x) as=some (kq fl as):=by unfold aT;dsimp only;rw[u1];dsimp only;rw[if_neg hlt]
      rw[this]
      refine⟨la,rs,rfl,aN List.mem_cons_self (aj ..) rfl,Paired.imp (fun _ _ q=>q.mono ?_) hrs⟩
      exact fun b q hb=>aD _ _ _ _ (L3.ro _ _ hb)
 · --a function
   rename_i ps b
   refine ff q4 fun eK hb=>?_
   induction n using dQ with
   |zero=>exact i2.elim
   |succ k=>
   refine dl (id i2) fun pa bv j1 j2 j3=>?_
   refine sI hb fun pn i z2 e2 e3 e4=>?_;subst z2
   refine dP (List.length_eq_one_iff.mp eK) fun a0 z1=>?_;subst z1
   have j3':=Rp.up j3 (Nat.le_succ k)
   have e4':=Gd.up e4 (Nat.le_succ k)
   have i4':=i4
   cases i4' with|cons hx0 hr0=>
   cases hr0
   rename_i av0
   nofun
   refine ao i1 KT (aS _) (aU _) rfl i2.hand ?_
   refine ao j1 KT (bP _) (cB _) rfl j3.hand ?_
   nofun
   refine ab.at (ihD j3' e4' hF fun V1 L1=>?_) (by lia)
   nofun
   have es:aT (ds (k+1)) (.lam [pn] b) [a0]=if(ds (k+1) b).1=true then none else some (if(ds (k+1) b).2 pn=true then [a0]else []):=rfl
   rw[es]at h
   induction hd:(ds (k+1) b).1 with
   |true=>
    nofun
    rw[hd,if_pos rfl]at h
    nofun
    exact⟨[],h _ _ L1 rfl⟩
   |false=>
    nofun
    rw[hd,if_neg (by decide)]at h
    nofun
    refine ao (i1.mono L1.ro) KT (aS _) (aU _) rfl i2.hand ?_
    refine ao (j1.mono L1.ro) KT (bP _) (bB _) rfl rfl ?_
    nofun
    refine⟨aL (af (L1.ro _ _ j2)),aP (i:=0) (.inl (af (L1.ro _ _ j2))) rfl rfl (by decide) ?_⟩
    nofun
    refine ao (i1.mono L1.ro) KT (aS _) (aU _) rfl i2.hand ?_
    refine ao (j1.mono L1.ro) KT (bP _) (cB _) rfl j3.hand ?_
    nofun
    refine ab.at (ihS (j3'.mono L1.ro) e4' (hF.mono L1.ro) fun V2 L2=>?_) (by lia)
    have L12:=L1.trans L2
    nofun
    induction hs:(ds (k+1) b).2 pn with
    |true=>
     nofun
     rw[hs,if_pos rfl]at h
     nofun
     refine ao (i1.mono L12.ro) KT (aS _) (bH _) rfl rfl ?_
     nofun
     refine⟨aL (af (L12.ro _ _ i3)),aP (i:=0) (.inl (af (L12.ro _ _ i3))) rfl rfl (by decide) ?_⟩
     nofun
     refine⟨bW rfl,fun eb heb=>?_⟩
     have L3:=L12.new1 heb (o:= .list [av0])
     exact⟨[eb],h _ _ (aR L3 (by simpa using L12.none0 heb nn)) ⟨eb,_,rfl,aN List.mem_cons_self (aj ..) rfl,.cons (hx0.mono fun b q hb=>aD _ _ _ _ (L3.ro _ _ hb)) .nil⟩⟩
    |false=>
     nofun
     rw[hs,if_neg (by decide)]at h
     nofun
     refine⟨bW rfl,fun eb heb=>?_⟩
     have L3:=L12.new1 heb (o:= .list [])
     exact⟨[eb],h _ _ (aR L3 (by simpa using L12.none0 heb nn)) ⟨eb,_,rfl,aN List.mem_cons_self (aj ..) rfl,.nil⟩⟩
end
theorem jR{α:Type}[DecidableEq α]:∀{xs ys:List α},xs.Nodup->(∀x∈xs,x∈ys)->xs.length<=ys.length:=by
 intro zz
 induction zz with
 |nil=>
  intro _ _ _
  exact Nat.zero_le _
 |cons a r ih=>
  intro ys h hs
  have ha:=hs a List.mem_cons_self
  have h2:∀x∈r,x∈ys.erase a:=fun x hx=>by
   have hne:x≠a:=by rintro rfl;exact(List.nodup_cons.mp h).1 hx
   exact(List.mem_erase_of_ne hne).mpr (hs x (List.mem_cons_of_mem _ hx))
  have this0:=ih (List.nodup_cons.mp h).2 h2
  rw[List.length_erase_of_mem ha]at this0
  have:1<=ys.length:=List.length_pos_of_mem ha
  rw[List.length_cons];exact Nat.le_trans (Nat.succ_le_succ this0) (Nat.le_of_eq (Nat.sub_add_cancel this))
theorem rC{D:DS}{bs:List (Str×ai)}:∀(f i:Nat) (found:List Str),(∀x∈found,x∈bs.map (·.1))->∀x∈bR D bs f i found,x∈bs.map (·.1):=by
 intro zz
 induction zz with
 |zero=>
  intro _ _ h x hx
  exact h x hx
 |succ f ih=>
  intro i found h x hx
  induction e:found[i]? with
  |none=>rw[iu e]at hx;exact h x hx
  |some z=>
   rw[gz e]at hx
   refine ih _ _ (fun y hy=>?_) x hx
   rcases List.mem_append.mp hy with hy|hy
   ·exact h y hy
   ·exact(List.mem_filter.mp hy).1
theorem j9{D:DS}{bs:List (Str×ai)}{b:ai}:∀x∈bm D bs b,x∈bs.map (·.1):=rC _ _ _ fun _ hy=>(List.mem_filter.mp hy).1
theorem nK{D:DS}{bs:List (Str×ai)}(hn:(bs.map (·.1)).Nodup):∀(f i:Nat) (found:List Str),found.Nodup->(∀x∈found,x∈bs.map (·.1))->(bR D bs f i found).length<=bs.length:=by
 have base:∀found:List Str,found.Nodup->(∀x∈found,x∈bs.map (·.1))->found.length<=bs.length:=fun found h1 h2=>by
  have:=jR h1 h2
  rwa [List.length_map]at this
 intro f
 induction f with
 |zero=>intro i found h1 h2;exact base _ h1 h2
 |succ f ih=>
  intro i found h1 h2
  induction hx:found[i]? with
  |none=>rw[iu hx];exact base _ h1 h2
  |some x=>
   rw[gz hx]
   refine ih _ _ ?_ ?_
   ·refine List.nodup_append.mpr ⟨h1,hn.filter _,fun a ha b hb=>?_⟩
    rintro rfl
    have:=(List.mem_filter.mp hb).2
    rw[Bool.and_eq_true,Bool.not_eq_true']at this
    have h3:found.contains a=true:=by simpa using ha
    rw[h3]at this;exact absurd this.1 (by decide)
   ·intro y hy
    rcases List.mem_append.mp hy with hy|hy
    ·exact h2 y hy
    ·exact(List.mem_filter.mp hy).1
theorem rD{D:DS}{bs:List (Str×ai)}(hn:(bs.map (·.1)).Nodup){found:List Str}{x:Str}(h1:found.Nodup):(found++cK D bs found x).Nodup:=by
 refine List.nodup_append.mpr ⟨h1,hn.filter _,fun a ha b hb=>?_⟩
 rintro rfl
 have:=(List.mem_filter.mp hb).2
 rw[Bool.and_eq_true,Bool.not_eq_true']at this
 have h3:found.contains a=true:=by simpa using ha
 rw[h3]at this;exact absurd this.1 (by decide)
theorem rE{n:Nat}{V:St}{pvs:List Value}{ts:List (Str×Value×ai)}(h:PySem.Paired (vX n V) pvs ts){x:Str}(hx:x∈(ts.map eP).map (·.1)):∃tv,(ts.map nv).lookup x=some tv/\Rp n V tv (dj (ts.map eP) x)/\(x,dj (ts.map eP) x)∈ts.map eP:=by
 induction h with
 |nil=>cases hx
 | @cons a b xs ys h1 _ ih=>
   obtain⟨bn,bv,bt⟩:=b
   refine iz h1 fun q _ _ g=>?_
   by_cases e:x=bn
   ·subst e
    refine⟨bv,by simp[nv],?_,?_⟩
    ·unfold dj;simp[eP];exact g
    ·unfold dj;simp[eP]
   ·have e1:(x==bn)=false:=by simpa using e
    rw[List.map_cons,List.map_cons,List.mem_cons]at hx
    refine iz (ih (hx.resolve_left e)) fun tv u1 u2 u3=>?_
    have er:dj (((bn,bv,bt)::ys).map eP) x=dj (ys.map eP) x:=by
     unfold dj;rw[List.map_cons];show(((bn,bt)::ys.map eP).lookup x).getD _=_;rw[List.lookup_cons,e1]
    rw[er]
    refine⟨tv,?_,u2,List.mem_cons_of_mem _ u3⟩
    rw[List.map_cons];show((bn,bv)::ys.map nv).lookup x=_;rw[List.lookup_cons,e1];exact u1
section
variable{c:Cx}{d n:Nat}{env:Env}{l:au}{V:St}{p pos:Pos}{Q:Value->St->Prop}{QB:Bool->St->Prop}{QF:Fl->au->St->Prop}{QL:au->St->Prop}{ns:List (Str×NameKind)}
theorem vo{t:Expr}{body:List Stmt}{a:Addr}{D:DS}{bs:List (Str×ai)}{N:Nat}(I:Nat->List Str->au->St->Prop)
  (nxt:∀i found l V,I i found l V->rd V a=some (.list (found.map aJ))/\found.length<=N)
  (step:∀i found x l V,found[i]? =some x->I i found l V->nY c d env l t (aJ x) V fun l1 V1=>SS c d env l1 body V1 fun f l2 V2=>match f with| .next=>I (i+1) (found++cK D bs found x) l2 V2| .ret w=>QF (.ret w) l2 V2| .other=>False):
  ∀(k i:Nat) (found:List Str) {l:au} {V:St},k+i=N+1->I i found l V->(∀i' l' V',I i' (bR D bs k i found) l' V'->QF .next l' V')->mx c d env t body (.list a) i l V QF:=by
 intro zz
 induction zz with
 |zero=>
  intro i found l V hk h gV
  have hn:=nxt i found l V h
  refine dn (r:=none) ((aE hn.1 i).trans (by rw[List.getElem?_eq_none (by rw[List.length_map];exact bC hn.2 (Nat.le_of_eq hk.symm))])) (gV i l V h)
 |succ k ih=>
  intro i found l V hk h gV
  have hn:=nxt i found l V h
  induction hx:found[i]? with
  |none=>
   refine dn (r:=none) ((aE hn.1 i).trans (by rw[List.getElem?_map,hx];rfl)) (gV i l V ?_)
   rw[iu hx]
   exact h
  |some x=>
   refine dn (r:=some (aJ x)) ((aE hn.1 i).trans (by rw[List.getElem?_map,hx];rfl)) ?_
   refine(step i found x l V hx h).mono fun l1 V1 q=>q.mono fun f l2 V2 q=>?_
   induction f with
   |next=>
    refine ih (i+1) _ (by exact Nat.le_antisymm (bK (Nat.le_of_eq hk)) (bK (Nat.le_of_eq hk.symm))) q fun i' l' V' r=>gV i' l' V' ?_
    rw[gz hx]
    exact r
   |ret w=>exact q
   |other=>exact q
theorem lR(KT:HK c)(ihS:nI c n){v:Value}{bs:List (Str×ai)}{b:ai}{r:Bool}{m:Nat}(h1:Rp (n+1) V v (.letn bs b r))(hg:Gd (n+1) m (.letn bs b r))(hF:tO V)
  (h:∀a V',Le [] V V'->V' a=some (.ro (.list ((bm (ds n) bs b).map aJ)))->Q (.ref a) V'):ab c (20*n+13) (.ref 827) [v] V Q:=by
 refine ab.frz (cZ (x0:="expr") KT ?_)
 intro env K
 try dsimp only at K
 refine ku h1 fun a pvs bv i1 i2 i3 i4=>?_
 refine be (no i3) fun ts z1 hpt=>?_;subst z1
 refine tL hg fun q1 q2 q3 q4 zr=>?_;refine iz zr fun i q5 q6 q7=>?_
 have htl:ts.length<=2:=by rw[List.length_map]at q2;exact q2
 have hnd:((ts.map nv).map (·.1)).Nodup:=by
  have:(ts.map nv).map (·.1)=(ts.map eP).map (·.1):=by rw[List.map_map,List.map_map];rfl
  rw[this];exact q4
 let F:I2:=fun l2 V2 G=>Le [] V V2->Lk l2 "expr" v->∀w wep fa,V w=none->Lk l2 "rows" (.ref w)->V2 w=some (.dict (ts.map nv) wep)->Lk l2 "found" (.ref fa)->V fa=none->w≠fa->(V2 fa=some (.list ((((ts.map eP).map (·.1)).filter fun o=>(ds n b).2 o).map aJ)))->G
 refine aC F ?_ ?_
 ·intro _ _
  nofun
  refine ao i1 KT (aM _) (bf _) rfl rfl ?_
  nofun
  refine jg (af i2) (jk hpt) (by rw[List.length_map];lia) fun w wep hw0=>?_
  rw[merged_nil_of_nodup _ hnd]
  have L1:Le [] V (V.set w (.dict (ts.map nv) wep)):= .new hw0
  have hw1:(V.set w (.dict (ts.map nv) wep)) w=some (.dict (ts.map nv) wep):=aj ..
  generalize V.set w (.dict (ts.map nv) wep)=V1 at*
  nofun
  refine ao (i1.mono L1.ro) KT (aM _) (bf _) rfl rfl ?_
  refine⟨_,ax (af (L1.ro _ _ i2)),fun cenv CK=>?_⟩
  let F:I4:=fun i acc l' V' G=>Le [] V1 V'->Lk l' "expr" v->(acc= .l (((((ts.take i).map eP).map (·.1)).filter fun o=>(ds n b).2 o).map aJ))->G
  refine aq pvs F ?_ ?_ ?_ pvs.length 0 (Nat.zero_add _) (by exact fun _ k=>k (.refl ..) (by rfl') rfl)
  ·rintro i acc l' V' L - -
   exact aE (af (L.ro _ _ (L1.ro _ _ i2))) i
  ·rintro i x acc l' V' hx R hR L eK rfl
   refine be (Paired.get hpt hx) fun z0 ht hb=>?_;obtain⟨y,tv,t⟩:=z0
   have LL:=L1.trans L
   refine iz (hb.mono LL.ro) fun q z1 g1 g2=>?_;subst z1
   dsimp only at g1 g2
   refine dp (af g1) rfl rfl ?_
   nofun
   refine ao (i1.mono LL.ro) KT (aM _) (bI _) rfl i4.hand ?_
   nofun
   refine ab.at (ihS (i4.mono LL.ro) q7 (hF.mono LL.ro) fun V3 L3=>?_) (by lia)
   nofun
   have hstep:((((ts.take (i+1)).map eP).map (·.1)).filter fun o=>(ds n b).2 o)=((((ts.take i).map eP).map (·.1)).filter fun o=>(ds n b).2 o)++(if(ds n b).2 y=true then [y]else []):=by
    rw[am ht,List.map_append,List.map_append,List.filter_append]
    congr 1
    show List.filter _ [y]=_
    cases hq:(ds n b).2 y<;>simp[hq]
   induction hq:(ds n b).2 y with
   |true=>
    nofun
    refine⟨?_,(hR _ _ _ _ fun _ k=>k (L.trans L3) (by rfl') (by rw[hstep,hq,List.map_append];rfl))⟩
    rw[List.length_map,sizeLine_eq]
    refine Nat.le_trans (List.length_filter_le _ _) ?_
    rw[List.length_map,List.length_map,List.length_take];lia
   |false=>
    nofun
    exact(fun _ k=>k (L.trans L3) (by rfl') (by rw[hstep,hq,if_neg (by decide),List.append_nil]))
  ·rintro acc l' V' L eK rfl
   rw[show ts.take pvs.length=ts from List.take_of_length_le (by rw[hpt.length];exact Nat.le_refl _)]
   intro fa hfa
   unfold Mine.gG
   nofun
   have hne:w≠fa:=Ne.symm (aO hfa (L.at0 hw1))
   exact(fun _ k=>k ((L1.trans L).new1 hfa) (by rfl') w wep fa hw0 (by rfl') (by rw[aA _ _ hne];exact L.at0 hw1) (by rfl') ((L1.trans L).none0 hfa nn) hne (aj ..))
 rintro l2 V2 L2 b1 w wep fa hw0 b2 hw2 b3 hf0 hne hf2
 nofun
 refine⟨_,ax (af hf2),?_⟩
 refine vo (D:=ds n) (bs:=ts.map eP) (N:=ts.length) (fun i found l' V'=>Le [] V V'/\Lk l' "rows" (.ref w)/\Lk l' "found" (.ref fa)/\V' w=some (.dict (ts.map nv) wep)/\V' fa=some (.list (found.map aJ))/\found.Nodup/\∀x∈found,x∈(ts.map eP).map (·.1)) ?_ ?_ (ts.length+1) 0 _ (by lia) ⟨L2,by rfl',by rfl',hw2,hf2,q4.filter _,fun x hx=>(List.mem_filter.mp hx).1⟩ ?_
 ·rintro i found l' V' ⟨L,c1,c2,c3,c4,c5,c6⟩
  refine⟨af c4,?_⟩
  have:=jR c5 c6
  rwa [List.length_map,List.length_map]at this
 ·rintro i found x l' V' hx ⟨L,c1,c2,c3,c4,c5,c6⟩
  have hfl:found.length<=2:=by
   have:=jR c5 c6
   rw[List.length_map,List.length_map]at this;lia
  refine iz (rE hpt (c6 x (List.mem_of_getElem? hx))) fun tv u1 u2 u3=>?_
  have hgr:=(q6 _ u3).2
  unfold aJ
  nofun
  refine ue c4 ⟨trivial,?_⟩
  nofun
  refine⟨_,fJ (af c3),fun cenv CK=>?_⟩
  let F:I4:=fun j acc l3 V3 G=>Le [] V' V3->Lk l3 "rows" (.ref w)->Lk l3 "found" (.ref fa)->Lk l3 "name" (.str x 0)->(acc= .l ((((((ts.take j).map eP).map (·.1)).filter fun o=> !found.contains o&&(ds n (dj (ts.map eP) x)).2 o)).map aJ))->G
  refine aq ((ts.map nv).map fun p=>aJ p.1) F ?_ ?_ ?_ (ts.map nv).length 0 (by simp)
   (by exact fun _ k=>k (.refl ..) (by rfl') (by rfl') (by rfl') rfl)
  ·rintro j acc l3 V3 L3 - - - -
   exact gI (af (L3.at0 c3)) j
  ·rintro j z acc l3 V3 hz R hR L3 d1 d2 d3 rfl
   rw[List.getElem?_map,Option.map_eq_some_iff]at hz
   refine be hz fun z0 hy z2=>?_;obtain⟨y,yv⟩:=z0;subst z2
   rw[List.getElem?_map,Option.map_eq_some_iff]at hy
   obtain⟨⟨y',yv',yt⟩,hy,hye⟩:=hy
   obtain rfl:y'=y:=congrArg Prod.fst hye
   have hstep:((((ts.take (j+1)).map eP).map (·.1)).filter fun o=> !found.contains o&&(ds n (dj (ts.map eP) x)).2 o)=((((ts.take j).map eP).map (·.1)).filter fun o=> !found.contains o&&(ds n (dj (ts.map eP) x)).2 o)++(if(!found.contains y'&&(ds n (dj (ts.map eP) x)).2 y')=true then [y']else []):=by
    rw[am hy,List.map_append,List.map_append,List.filter_append]
    congr 1
    show List.filter _ [y']=_
    rw[List.filter_cons,List.filter_nil]
   have hlen:(((((ts.take j).map eP).map (·.1)).filter fun o=> !found.contains o&&(ds n (dj (ts.map eP) x)).2 o).map aJ).length<=sizeLine:=by
    rw[List.length_map,sizeLine_eq]
    refine Nat.le_trans (List.length_filter_le _ _) ?_
    rw[List.length_map,List.length_map,List.length_take];lia
   have LL:=L.trans L3
   unfold aJ
   nofun
   refine sf (xs:=found) (af (L3.at0 c4)) ?_
   nofun
   induction hq1:(!found.contains y')with
   |false=>
    nofun
    exact(fun _ k=>k L3 (by rfl') (by rfl') (by rfl') (by rw[hstep,hq1,Bool.false_and,if_neg (by decide),List.append_nil];rfl))
   |true=>
    nofun
    refine⟨dw (af (L3.at0 c3)),dS (af (L3.at0 c3)) u1 ?_⟩
    nofun
    refine ab.at (ihS (u2.mono LL.ro) hgr (hF.mono LL.ro) fun V4 L4=>?_) (by lia)
    nofun
    induction hq2:(ds n (dj (ts.map eP) x)).2 y' with
    |false=>
     nofun
     exact(fun _ k=>k (L3.trans L4) (by rfl') (by rfl') (by rfl') (by rw[hstep,hq1,hq2,Bool.true_and,if_neg (by decide),List.append_nil];rfl))
    |true=>
     nofun
     exact⟨hlen,(hR _ _ _ _ fun _ k=>k (L3.trans L4) (by rfl') (by rfl') (by rfl') (by rw[hstep,hq1,hq2,Bool.true_and,if_pos rfl,List.map_append];rfl))⟩
  ·rintro acc l3 V3 L3 d1 d2 d3 rfl
   have e:((ts.map nv).map fun p=>aJ p.1).length=ts.length:=by rw[List.length_map,List.length_map]
   rw[e,show ts.take ts.length=ts from List.take_length]
   intro ea hea
   unfold Mine.gG
   have hne2:fa≠ea:=Ne.symm (aO hea (L3.at0 c4))
   have hne3:w≠ea:=Ne.symm (aO hea (L3.at0 c3))
   have hml:(cK (ds n) (ts.map eP) found x).length<=2:=by
    unfold cK
    refine Nat.le_trans (List.length_filter_le _ _) ?_
    rw[List.length_map,List.length_map];exact htl
   nofun
   have LE:Le [] V (V3.set ea (.list ((cK (ds n) (ts.map eP) found x).map aJ))):=(L.trans L3).new1 hea
   have hfE:(V3.set ea (.list ((cK (ds n) (ts.map eP) found x).map aJ))) fa=some (.list (found.map aJ)):=by rw[aA _ _ hne2];exact L3.at0 c4
   refine uf (vs:=found.map aJ) (ws:=(cK (ds n) (ts.map eP) found x).map aJ) hfE (af (aj ..)) (by rw[List.length_map,List.length_map];exact bC hfl hml) ?_
   nofun
   refine⟨LE.touch hf0 hfE rfl,by rfl',by rfl',?_,?_,rD q4 c5,?_⟩
   ·rw[aA _ _ hne,aA _ _ hne3];exact L3.at0 c3
   ·rw[aj,List.map_append];rfl
   ·intro y hy
    rcases List.mem_append.mp hy with hy|hy
    ·exact c6 y hy
    ·exact(List.mem_filter.mp hy).1
 ·rintro i' l' V' ⟨L,c1,c2,c3,c4,c5,c6⟩
  nofun
  refine⟨[fa],h _ _ (aR L (by simpa using hf0)) (aN List.mem_cons_self ?_ rfl)⟩
  unfold bm
  rw[List.length_map]
  exact c4
end
section
variable{c:Cx}{d n:Nat}{env:Env}{l:au}{V:St}{p pos:Pos}{Q:Value->St->Prop}{QB:Bool->St->Prop}{QF:Fl->au->St->Prop}{QL:au->St->Prop}{ns:List (Str×NameKind)}
theorem Gd.ways{i:Nat}{alts:List (Int×ai)}{o:Option ai}(h5:∀p∈alts,p.1=1/\Gd n i p.2)(h6:∀t,o=some t->Gd n i t):∀w∈cS alts o,Gd n i w:=by
 intro w hw
 unfold cS at hw
 rcases List.mem_append.mp hw with hw|hw
 ·refine be (List.mem_map.mp hw) fun p hp z2=>?_;subst z2
  exact(h5 p hp).2
 ·induction o with
  |none=>cases hw
  |some t=>have:w=t:=by simpa using hw
           exact h6 _ (by rw[this])
theorem lS{D:DS}{f:ai}{as ts:List ai}(h:aT D f as=some ts):∀a∈ts,a∈as:=by
 unfold aT at h
 intro a ha
 induction f using ai.cs<;>dsimp only at h<;>try (cases h;cases ha;done)
 ·rename_i x
  induction e:eD x with
  |none=>rw[e]at h;cases h
  |some fl=>
   rw[e]at h;cases h
   split at ha
   ·cases ha
   ·exact qo ha
 ·split at h
  ·cases h
  ·cases h
   split at ha
   ·exact List.mem_of_mem_take ha
   ·cases ha
theorem lT{D:DS}{f:ai}{as ts:List ai}(h:aT D f as=some ts):ts.length<=as.length:=by
 unfold aT at h
 induction f using ai.cs<;>dsimp only at h<;>try (cases h;exact Nat.zero_le _)
 ·rename_i x
  induction e:eD x with
  |none=>rw[e]at h;cases h
  |some fl=>
   rw[e]at h;cases h
   split
   ·exact Nat.zero_le _
   ·unfold kq
    rw[List.length_map]
    refine Nat.le_trans (List.length_filter_le _ _) ?_
    rw[List.length_zip];lia
 ·split at h
  ·cases h
  ·cases h
   split
   ·rw[List.length_take];lia
   ·exact Nat.zero_le _
theorem qu{alts:List (Int×ai)}{o:Option ai}(h:alts.length<=4):(cS alts o).length<=5:=by
 unfold cS
 rw[List.length_append,List.length_map]
 induction o<;>simp<;>lia
theorem tz(KT:HK c)(ihD:qt c n)(ihS:nI c n):qt c (n+1):=by
 intro V v t m Q h1 hg hF h
 refine ab.deeper (d:=20*n+29+1) ?_ (by lia)
 refine cZ (x0:="expr") KT ?_
 intro env K
 try dsimp only at K
 nofun
 induction t using ai.cs with
 |var x=>
  refine az (b:=false) KT h1 rfl rfl ?_
  nofun
  exact h _ (.refl ..)
 |lit x=>
  refine az (b:=false) KT h1 rfl rfl ?_
  nofun
  exact h _ (.refl ..)
 |con x as=>
  refine az (b:=false) KT h1 rfl rfl ?_
  nofun
  exact h _ (.refl ..)
 |lam ps b=>
  refine az (b:=false) KT h1 rfl rfl ?_
  nofun
  exact h _ (.refl ..)
 |prim op as=>
  refine az (b:=true) KT h1 rfl rfl ?_
  nofun
  refine dl h1 fun a vs i1 i2 i3=>?_
  have hgo:∀t∈as,Gd n m t:=hg.2.2
  have hal:as.length<=2:=hg.2.1
  nofun
  refine ao i1 KT (cn _) (dO _) rfl rfl ?_
  nofun
  refine iH ?_
  nofun
  have hds:(ds (n+1) (.prim op as)).1=((op==("error":Str))||as.any fun a=>(ds n a).1):=rfl
  rw[hds]at h
  induction he:(op==("error":Str))with
  |true=>
   nofun
   rw[he]at h
   exact h _ (.refl ..)
  |false=>
   nofun
   rw[he,Bool.false_or]at h
   nofun
   refine ao i1 KT (cn _) (cT _) rfl rfl ?_
   refine⟨_,ax (af i2),fun cenv CK=>?_⟩
   let F:I4:=fun i acc l' V' G=>Le [] V V'->(acc= .l (((as.take i).map fun a=>(ds n a).1).map .bool))->G
   refine aq vs F ?_ ?_ ?_ vs.length 0 (Nat.zero_add _) (by exact fun _ k=>k (.refl ..) rfl)
   ·rintro i acc l' V' L -
    exact aE (af (L.ro _ _ i2)) i
   ·rintro i y acc l' V' hy R hR L rfl
    refine be (Paired.get i3 hy) fun t ht g=>?_
    nofun
    refine ab.at (ihD (g.mono L.ro) (hgo t (List.mem_of_getElem? ht)) (hF.mono L.ro) fun V2 L2=>?_) (by lia)
    refine⟨by rw[List.length_map,List.length_map,List.length_take];exact sz (by lia),(hR _ _ _ _ fun _ k=>k (L.trans L2) ?_)⟩
    rw[am ht,List.map_append,List.map_append];rfl
   ·rintro acc l' V' L rfl
    rw[show as.take vs.length=as from List.take_of_length_le (by rw[i3.length];exact Nat.le_refl _)]
    intro la hla
    unfold Mine.gG
    refine jQ (af (aj ..)) (by lia) ?_
    nofun
    rw[gB]
    exact h _ (L.new1 hla)
 |case e x alts o=>
  refine az (b:=false) KT h1 rfl rfl ?_
  nofun
  refine az (b:=true) KT h1 rfl rfl ?_
  nofun
  have h1':=h1
  refine rO h1 fun xv a avs ov i1 i2 i3 i4 i5=>?_
  refine nT hg fun q1 q2 zr=>?_;refine yf zr fun i q3 q4 q5 q6=>?_
  have hgo:=Gd.ways q5 q6
  have hwl:=qu (o:=o) (show alts.length<=4 by lia)
  nofun
  refine ao i1 KT (aK _) (cC _) rfl i2.hand ?_
  nofun
  refine ab.at (ihD i2 q2 hF fun V1 L1=>?_) (by lia)
  nofun
  have hds:(ds (n+1) (.case e x alts o)).1=((ds n e).1||(cS alts o).all fun w=>(ds n w).1):=rfl
  rw[hds]at h
  induction he:(ds n e).1 with
  |true=>
   nofun
   rw[he]at h
   exact h _ L1
  |false=>
   nofun
   rw[he,Bool.false_or]at h
   nofun
   refine ab.at (so KT (h1'.mono L1.ro) (by lia) fun wa vs V0 L0 hwa i3=>?_) (by lia)
   have L01:=L1.trans L0
   refine⟨_,ax (af hwa),fun cenv CK=>?_⟩
   let F:I4:=fun i acc l' V' G=>Le [] V0 V'->(acc= .l ((((cS alts o).take i).map fun a=>(ds n a).1).map .bool))->G
   refine aq vs F ?_ ?_ ?_ vs.length 0 (Nat.zero_add _) (by exact fun _ k=>k (.refl ..) rfl)
   ·rintro i acc l' V' L -
    exact aE (af (L.ro _ _ hwa)) i
   ·rintro i y acc l' V' hy R hR L rfl
    refine be (Paired.get i3 hy) fun t ht g=>?_
    nofun
    refine ab.at (ihD (g.mono L.ro) (hgo t (List.mem_of_getElem? ht)) (hF.mono (L01.trans L).ro) fun V2 L2=>?_) (by lia)
    refine⟨by rw[List.length_map,List.length_map,List.length_take];exact sz (by lia),(hR _ _ _ _ fun _ k=>k (L.trans L2) ?_)⟩
    rw[am ht,List.map_append,List.map_append];rfl
   ·rintro acc l' V' L rfl
    rw[show(cS alts o).take vs.length=cS alts o from List.take_of_length_le (by rw[i3.length];exact Nat.le_refl _)]
    intro la hla
    unfold Mine.gG
    refine sn (af (aj ..)) (by lia) ?_
    nofun
    rw[nH]
    exact h _ ((L01.trans L).new1 hla)
 |letn bs b r=>
  refine az (b:=false) KT h1 rfl rfl ?_
  nofun
  refine az (b:=true) KT h1 rfl rfl ?_
  nofun
  have h1':=h1
  have hg':=hg
  refine ku h1 fun a pvs bv i1 i2 i3 i4=>?_
  refine be (no i3) fun ts z1 hpt=>?_;subst z1
  refine tL hg fun q1 q2 q3 q4 zr=>?_;refine iz zr fun i q5 q6 q7=>?_
  have htl:ts.length<=2:=by rw[List.length_map]at q2;exact q2
  have hnd:((ts.map nv).map (·.1)).Nodup:=by
   have:(ts.map nv).map (·.1)=(ts.map eP).map (·.1):=by rw[List.map_map,List.map_map];rfl
   rw[this];exact q4
  nofun
  refine ao i1 KT (aM _) (bf _) rfl rfl ?_
  nofun
  refine jg (af i2) (jk hpt) (by rw[List.length_map];lia) fun w wep hw0=>?_
  rw[merged_nil_of_nodup _ hnd]
  have L1:Le [] V (V.set w (.dict (ts.map nv) wep)):= .new hw0
  have hw1:(V.set w (.dict (ts.map nv) wep)) w=some (.dict (ts.map nv) wep):=aj ..
  generalize V.set w (.dict (ts.map nv) wep)=V1 at*
  nofun
  refine ao (i1.mono L1.ro) KT (aM _) (bI _) rfl i4.hand ?_
  nofun
  refine ab.at (ihD (i4.mono L1.ro) q7 (hF.mono L1.ro) fun V2 L2=>?_) (by lia)
  have L12:=L1.trans L2
  nofun
  have hds:(ds (n+1) (.letn (ts.map eP) b r)).1=((ds n b).1||(bm (ds n) (ts.map eP) b).any fun x=>(ds n (dj (ts.map eP) x)).1):=rfl
  rw[hds]at h
  induction he:(ds n b).1 with
  |true=>
   nofun
   rw[he]at h
   exact h _ L12
  |false=>
   nofun
   rw[he,Bool.false_or]at h
   nofun
   refine ab.at (lR KT ihS (h1'.mono L12.ro) hg' (hF.mono L12.ro) fun ra V0 L0 hra=>?_) (by lia)
   have hw2:=L0.at0 (L2.at0 hw1)
   have L02:=L12.trans L0
   refine⟨_,ax (af hra),fun cenv CK=>?_⟩
   have hrk:=j9 (D:=ds n) (bs:=ts.map eP) (b:=b)
   have hrl:(bm (ds n) (ts.map eP) b).length<=2:=Nat.le_trans (nK q4 _ _ _ (q4.filter _) fun x hx=>(List.mem_filter.mp hx).1) (by rw[List.length_map];exact htl)
   generalize bm (ds n) (ts.map eP) b=R at*
   let F:I4:=fun i acc l' V' G=>Le [] V0 V'->Lk l' "rows" (.ref w)->(acc= .l (((R.take i).map fun x=>(ds n (dj (ts.map eP) x)).1).map .bool))->G
   refine aq (R.map aJ) F ?_ ?_ ?_ (R.map aJ).length 0 (Nat.zero_add _) (by exact fun _ k=>k (.refl ..) (by rfl') rfl)
   ·rintro i acc l' V' L - -
    exact aE (af (L.ro _ _ hra)) i
   ·rintro i y acc l' V' hy R hR L b1 rfl
    rw[List.getElem?_map,Option.map_eq_some_iff]at hy
    refine be hy fun x hx z2=>?_;subst z2
    refine iz (rE hpt (hrk x (List.mem_of_getElem? hx))) fun tv u1 u2 u3=>?_
    have LL:=L02.trans L
    unfold aJ
    nofun
    refine⟨dw (af (L.at0 hw2)),dS (af (L.at0 hw2)) u1 ?_⟩
    nofun
    refine ab.at (ihD (u2.mono LL.ro) (q6 _ u3).2 (hF.mono LL.ro) fun V3 L3=>?_) (by lia)
    refine⟨by rw[List.length_map,List.length_map,List.length_take];exact sz (by lia),(hR _ _ _ _ fun _ k=>k (L.trans L3) (by rfl') ?_)⟩
    rw[am hx,List.map_append,List.map_append];rfl
   ·rintro acc l' V' L b1 rfl
    rw[show R.take (R.map aJ).length=R from List.take_of_length_le (by rw[List.length_map];exact Nat.le_refl _)]
    intro la hla
    unfold Mine.gG
    refine jQ (af (aj ..)) (by lia) ?_
    nofun
    rw[gB]
    exact h _ ((L02.trans L).new1 hla)
 |app f as=>
  refine az (b:=false) KT h1 rfl rfl ?_
  nofun
  refine az (b:=true) KT h1 rfl rfl ?_
  nofun
  refine ab.at (nJ KT ihD ihS h1 hg hF fun rv V1 L1 hrv=>?_) (by lia)
  nofun
  refine iP hrv.plain hrv.none ?_
  nofun
  have hds:(ds (n+1) (.app f as)).1=(match aT (ds n) f as with|none=>true|some ts=>ts.any fun a=>(ds n a).1):=rfl
  rw[hds]at h
  have hmem:= @lS (ds n) f as
  have hlen:= @lT (ds n) f as
  induction hst:aT (ds n) f as with
  |none=>
   rw[hst]at h
   nofun
   exact h _ L1
  |some ts=>
   rw[hst]at h hrv
   refine dl hrv fun sa vs z2 i2 i3=>?_;subst z2
   have hgo:∀t∈ts,Gd n m t:=fun t ht=>hg.2.2.1 t (hmem hst t ht)
   have hal:ts.length<=3:=Nat.le_trans (hlen hst) hg.2.1
   nofun
   refine⟨_,ax (af i2),fun cenv CK=>?_⟩
   let F:I4:=fun i acc l' V' G=>Le [] V1 V'->(acc= .l (((ts.take i).map fun a=>(ds n a).1).map .bool))->G
   refine aq vs F ?_ ?_ ?_ vs.length 0 (Nat.zero_add _) (by exact fun _ k=>k (.refl ..) rfl)
   ·rintro i acc l' V' L -
    exact aE (af (L.ro _ _ i2)) i
   ·rintro i y acc l' V' hy R hR L rfl
    refine be (Paired.get i3 hy) fun t ht g=>?_
    nofun
    refine ab.at (ihD (g.mono L.ro) (hgo t (List.mem_of_getElem? ht)) (hF.mono (L1.trans L).ro) fun V2 L2=>?_) (by lia)
    refine⟨by rw[List.length_map,List.length_map,List.length_take];exact sz (by lia),(hR _ _ _ _ fun _ k=>k (L.trans L2) ?_)⟩
    rw[am ht,List.map_append,List.map_append];rfl
   ·rintro acc l' V' L rfl
    rw[show ts.take vs.length=ts from List.take_of_length_le (by rw[i3.length];exact Nat.le_refl _)]
    intro la hla
    unfold Mine.gG
    refine jQ (af (aj ..)) (by lia) ?_
    nofun
    rw[gB]
    exact h _ ((L1.trans L).new1 hla)
end
section
variable{c:Cx}{d n:Nat}{env:Env}{l:au}{V:St}{p pos:Pos}{Q:Value->St->Prop}{QB:Bool->St->Prop}{QF:Fl->au->St->Prop}{QL:au->St->Prop}{ns:List (Str×NameKind)}
theorem tA(KT:HK c)(ihD:qt c n)(ihS:nI c n):nI c (n+1):=by
 intro V v t m z Q h1 hg hF h
 refine ab.deeper (d:=20*n+29+1) ?_ (by lia)
 refine eC (x0:="name") (x1:="expr") KT ?_
 intro env K
 try dsimp only at K
 nofun
 induction t using ai.cs with
 |var x=>
  refine az (b:=true) KT h1 rfl rfl ?_
  nofun
  refine ao h1.varR KT (dE _) (bT _) rfl rfl ?_
  nofun
  refine iH ?_
  exact h _ (.refl ..)
 |lit x=>
  refine az (b:=false) KT h1 rfl rfl ?_
  nofun
  exact h _ (.refl ..)
 |con x as=>
  refine az (b:=false) KT h1 rfl rfl ?_
  nofun
  exact h _ (.refl ..)
 |lam ps b=>
  refine az (b:=false) KT h1 rfl rfl ?_
  nofun
  exact h _ (.refl ..)
 |prim op as=>
  refine az (b:=false) KT h1 rfl rfl ?_
  nofun
  refine az (b:=true) KT h1 rfl rfl ?_
  nofun
  refine dl h1 fun a vs i1 i2 i3=>?_
  have hgo:∀t∈as,Gd n m t:=hg.2.2
  have hal:as.length<=2:=hg.2.1
  nofun
  refine ao i1 KT (cn _) (cT _) rfl rfl ?_
  refine⟨_,ax (af i2),fun cenv CK=>?_⟩
  let F:I4:=fun i acc l' V' G=>Le [] V V'->Lk l' "name" (.str z 0)->(acc= .l (((as.take i).map fun a=>(ds n a).2 z).map .bool))->G
  refine aq vs F ?_ ?_ ?_ vs.length 0 (Nat.zero_add _) (by exact fun _ k=>k (.refl ..) (by rfl') rfl)
  ·rintro i acc l' V' L - -
   exact aE (af (L.ro _ _ i2)) i
  ·rintro i y acc l' V' hy R hR L b1 rfl
   refine be (Paired.get i3 hy) fun t ht g=>?_
   nofun
   refine ab.at (ihS (g.mono L.ro) (hgo t (List.mem_of_getElem? ht)) (hF.mono L.ro) fun V2 L2=>?_) (by lia)
   refine⟨by rw[List.length_map,List.length_map,List.length_take];exact sz (by lia),(hR _ _ _ _ fun _ k=>k (L.trans L2) (by rfl') ?_)⟩
   rw[am ht,List.map_append,List.map_append];rfl
  ·rintro acc l' V' L b1 rfl
   rw[show as.take vs.length=as from List.take_of_length_le (by rw[i3.length];exact Nat.le_refl _)]
   intro la hla
   unfold Mine.gG
   refine jQ (af (aj ..)) (by lia) ?_
   nofun
   rw[gB]
   exact h _ (L.new1 hla)
 |case e x alts o=>
  refine az (b:=false) KT h1 rfl rfl ?_
  nofun
  refine az (b:=true) KT h1 rfl rfl ?_
  refine fg (jG (lr ?_))
  have h1':=h1
  refine rO h1 fun xv a avs ov i1 i2 i3 i4 i5=>?_
  refine nT hg fun q1 q2 zr=>?_;refine yf zr fun i q3 q4 q5 q6=>?_
  have hgo:=Gd.ways q5 q6
  have hwl:=qu (o:=o) (show alts.length<=4 by lia)
  have hds:(ds (n+1) (.case e x alts o)).2 z=((ds n e).2 z||((cS alts o).filter fun w=> !(ds n w).1).all fun w=>(ds n w).2 z):=rfl
  rw[hds]at h
  let F:I2:=fun l2 V2 G=>Le [] V V2->Lk l2 "name" (.str z 0)->Lk l2 "expr" v->∀la vs,Lk l2 "alive" (.ref la)->V2 la=some (.list vs)->(PySem.Paired (Rp n V2) vs ((cS alts o).filter fun w=> !(ds n w).1))->G
  refine aC F ?_ ?_
  ·intro _ _
   nofun
   refine ab.at (so KT h1' (by lia) fun wa vs V0 L0 hwa i3=>?_) (by lia)
   refine⟨_,ax (af hwa),fun cenv CK=>?_⟩
   let F:I4:=fun i acc l' V' G=>Le [] V0 V'->∀rs,acc= .l rs->rs.length<=i->(PySem.Paired (Rp n V0) rs (((cS alts o).take i).filter fun w=> !(ds n w).1))->G
   refine aq vs F ?_ ?_ ?_ vs.length 0 (Nat.zero_add _) (by exact fun _ k=>k (.refl ..) ([]) rfl (Nat.le_refl _) .nil)
   ·rintro i acc l' V' L - - - -
    exact aE (af (L.ro _ _ hwa)) i
   ·rintro i y acc l' V' hy R hR L rs rfl hrl hrs
    refine be (Paired.get i3 hy) fun t ht g=>?_
    have hil:i<=5:=by have:=(List.getElem?_eq_some_iff.mp ht).1;exact bC this hwl
    nofun
    refine ab.at (ihD (g.mono L.ro) (hgo t (List.mem_of_getElem? ht)) (hF.mono (L0.trans L).ro) fun V2 L2=>?_) (by lia)
    nofun
    induction hd:(ds n t).1 with
    |true=>
     nofun
     exact(fun _ k=>k (L.trans L2) rs rfl (by exact bK hrl) (by rw[am ht,List.filter_append,List.filter_cons,List.filter_nil,hd,if_neg (by decide),List.append_nil];exact hrs))
    |false=>
     nofun
     exact⟨by rw[sizeLine_eq];exact bC hrl hil,(hR _ _ _ _ fun _ k=>k (L.trans L2) _ rfl (by rw[List.length_append];simp;lia) (by rw[am ht,List.filter_append,List.filter_cons,List.filter_nil,hd];exact Paired.snoc' hrs g))⟩
   ·rintro acc l' V' L rs rfl hrl hrs
    rw[show(cS alts o).take vs.length=cS alts o from List.take_of_length_le (by rw[i3.length];exact Nat.le_refl _)]at hrs
    intro la hla
    unfold Mine.gG
    have LL:=L.new1 hla (o:= .list rs)
    nofun
    exact(fun _ k=>k (L0.trans LL) (by rfl') (by rfl') la rs (by rfl') (aj ..) (Paired.imp (fun _ _ q=>q.mono LL.ro) hrs))
  rintro l2 V2 L2 b1 b2 la vs b3 hla hrs
  nofun
  refine ao (i1.mono L2.ro) KT (aK _) (cC _) rfl i2.hand ?_
  nofun
  refine ab.at (ihS (i2.mono L2.ro) q2 (hF.mono L2.ro) fun V3 L3=>?_) (by lia)
  nofun
  induction he:(ds n e).2 z with
  |true=>
   nofun
   rw[he]at h
   exact h _ (L2.trans L3)
  |false=>
   nofun
   rw[he,Bool.false_or]at h
   have hgo2:∀t∈(cS alts o).filter (fun w=> !(ds n w).1),Gd n i t:=fun t ht=>hgo t (List.mem_filter.mp ht).1
   have hwl2:((cS alts o).filter (fun w=> !(ds n w).1)).length<=5:=Nat.le_trans (List.length_filter_le _ _) hwl
   generalize (cS alts o).filter (fun w=> !(ds n w).1)=W at*
   have hla3:=L3.at0 hla
   have LL0:=L2.trans L3
   nofun
   refine⟨_,ax (af hla3),fun cenv CK=>?_⟩
   let F:I4:=fun i acc l' V' G=>Le [] V3 V'->Lk l' "name" (.str z 0)->(acc= .l (((W.take i).map fun a=>(ds n a).2 z).map .bool))->G
   refine aq vs F ?_ ?_ ?_ vs.length 0 (Nat.zero_add _) (by exact fun _ k=>k (.refl ..) (by rfl') rfl)
   ·rintro i acc l' V' L - -
    exact aE (af (L.at0 hla3)) i
   ·rintro i y acc l' V' hy R hR L c1 rfl
    refine be (Paired.get hrs hy) fun t ht g=>?_
    nofun
    refine ab.at (ihS (g.mono (L3.trans L).ro) (hgo2 t (List.mem_of_getElem? ht)) (hF.mono (LL0.trans L).ro) fun V4 L4=>?_) (by lia)
    refine⟨by rw[List.length_map,List.length_map,List.length_take];exact sz (by lia),(hR _ _ _ _ fun _ k=>k (L.trans L4) (by rfl') ?_)⟩
    rw[am ht,List.map_append,List.map_append];rfl
   ·rintro acc l' V' L c1 rfl
    rw[show W.take vs.length=W from List.take_of_length_le (by rw[hrs.length];exact Nat.le_refl _)]
    intro lb hlb
    unfold Mine.gG
    refine sn (af (aj ..)) (by lia) ?_
    nofun
    rw[nH]
    exact h _ ((LL0.trans L).new1 hlb)
 |letn bs b r=>
  refine az (b:=false) KT h1 rfl rfl ?_
  nofun
  refine az (b:=true) KT h1 rfl rfl ?_
  nofun
  have h1':=h1
  have hg':=hg
  refine ku h1 fun a pvs bv i1 i2 i3 i4=>?_
  refine be (no i3) fun ts z1 hpt=>?_;subst z1
  refine tL hg fun q1 q2 q3 q4 zr=>?_;refine iz zr fun i q5 q6 q7=>?_
  have htl:ts.length<=2:=by rw[List.length_map]at q2;exact q2
  have hnd:((ts.map nv).map (·.1)).Nodup:=by
   have:(ts.map nv).map (·.1)=(ts.map eP).map (·.1):=by rw[List.map_map,List.map_map];rfl
   rw[this];exact q4
  nofun
  refine ao i1 KT (aM _) (bf _) rfl rfl ?_
  nofun
  refine jg (af i2) (jk hpt) (by rw[List.length_map];lia) fun w wep hw0=>?_
  rw[merged_nil_of_nodup _ hnd]
  have L1:Le [] V (V.set w (.dict (ts.map nv) wep)):= .new hw0
  have hw1:(V.set w (.dict (ts.map nv) wep)) w=some (.dict (ts.map nv) wep):=aj ..
  generalize V.set w (.dict (ts.map nv) wep)=V1 at*
  nofun
  refine ao (i1.mono L1.ro) KT (aM _) (bI _) rfl i4.hand ?_
  nofun
  refine ab.at (ihS (i4.mono L1.ro) q7 (hF.mono L1.ro) fun V2 L2=>?_) (by lia)
  have L12:=L1.trans L2
  nofun
  have hds:(ds (n+1) (.letn (ts.map eP) b r)).2 z=((ds n b).2 z||(bm (ds n) (ts.map eP) b).any fun x=>(ds n (dj (ts.map eP) x)).2 z):=rfl
  rw[hds]at h
  induction he:(ds n b).2 z with
  |true=>
   nofun
   rw[he]at h
   exact h _ L12
  |false=>
   nofun
   rw[he,Bool.false_or]at h
   nofun
   refine ab.at (lR KT ihS (h1'.mono L12.ro) hg' (hF.mono L12.ro) fun ra V0 L0 hra=>?_) (by lia)
   have hw2:=L0.at0 (L2.at0 hw1)
   have L02:=L12.trans L0
   refine⟨_,ax (af hra),fun cenv CK=>?_⟩
   have hrk:=j9 (D:=ds n) (bs:=ts.map eP) (b:=b)
   have hrl:(bm (ds n) (ts.map eP) b).length<=2:=Nat.le_trans (nK q4 _ _ _ (q4.filter _) fun x hx=>(List.mem_filter.mp hx).1) (by rw[List.length_map];exact htl)
   generalize bm (ds n) (ts.map eP) b=R at*
   let F:I4:=fun i acc l' V' G=>Le [] V0 V'->Lk l' "rows" (.ref w)->Lk l' "name" (.str z 0)->(acc= .l (((R.take i).map fun x=>(ds n (dj (ts.map eP) x)).2 z).map .bool))->G
   refine aq (R.map aJ) F ?_ ?_ ?_ (R.map aJ).length 0 (Nat.zero_add _) (by exact fun _ k=>k (.refl ..) (by rfl') (by rfl') rfl)
   ·rintro i acc l' V' L - - -
    exact aE (af (L.ro _ _ hra)) i
   ·rintro i y acc l' V' hy R hR L b1 b2 rfl
    rw[List.getElem?_map,Option.map_eq_some_iff]at hy
    refine be hy fun x hx z2=>?_;subst z2
    refine iz (rE hpt (hrk x (List.mem_of_getElem? hx))) fun tv u1 u2 u3=>?_
    have LL:=L02.trans L
    unfold aJ
    nofun
    refine⟨dw (af (L.at0 hw2)),dS (af (L.at0 hw2)) u1 ?_⟩
    nofun
    refine ab.at (ihS (u2.mono LL.ro) (q6 _ u3).2 (hF.mono LL.ro) fun V3 L3=>?_) (by lia)
    refine⟨by rw[List.length_map,List.length_map,List.length_take];exact sz (by lia),(hR _ _ _ _ fun _ k=>k (L.trans L3) (by rfl') (by rfl') ?_)⟩
    rw[am hx,List.map_append,List.map_append];rfl
   ·rintro acc l' V' L b1 b2 rfl
    rw[show R.take (R.map aJ).length=R from List.take_of_length_le (by rw[List.length_map];exact Nat.le_refl _)]
    intro la hla
    unfold Mine.gG
    refine jQ (af (aj ..)) (by lia) ?_
    nofun
    rw[gB]
    exact h _ ((L02.trans L).new1 hla)
 |app f as=>
  refine az (b:=false) KT h1 rfl rfl ?_
  nofun
  refine az (b:=true) KT h1 rfl rfl ?_
  nofun
  refine ab.at (nJ KT ihD ihS h1 hg hF fun rv V1 L1 hrv=>?_) (by lia)
  refine ku (id h1) fun fv a vs i1 i2 i3 i4=>?_
  have hds:(ds (n+1) (.app f as)).2 z=(hZ (ds n) f z||(match aT (ds n) f as with|none=>false|some ts=>ts.any fun a=>(ds n a).2 z)):=rfl
  rw[hds]at h
  have hmem:= @lS (ds n) f as
  have hlen:= @lT (ds n) f as
  let F:I2:=fun l2 V2 G=>Le [] V1 V2->Lk l2 "name" (.str z 0)->Lk l2 "some" rv->Lk l2 "inner" (.bool (hZ (ds n) f z))->G
  refine aC F ?_ ?_
  ·intro _ _
   nofun
   refine ao (i1.mono L1.ro) KT (aS _) (aU _) rfl i2.hand ?_
   nofun
   refine d9 KT (i2.mono L1.ro) rfl ?_
   nofun
   by_cases hc:(bh f==183)=true
   ·refine bu hc ?_
    induction f using ai.cs<;>first| (cases hc;done) |skip
    rename_i ps b
    induction n using dQ with
    |zero=>exact i2.elim
    |succ k=>
    refine dl (id i2) fun pa bv j1 j2 j3=>?_
    refine sI hg.2.2.2.2 fun pn i z2 e2 e3 e4=>?_;subst z2
    nofun
    refine ao (i1.mono L1.ro) KT (aS _) (aU _) rfl i2.hand ?_
    refine ao (j1.mono L1.ro) KT (bP _) (cB _) rfl j3.hand ?_
    nofun
    refine ab.at (ihS (Rp.up (j3.mono L1.ro) (Nat.le_succ k)) (Gd.up e4 (Nat.le_succ k)) (hF.mono L1.ro) fun V2 L2=>?_) (by lia)
    nofun
    exact(fun _ k=>k L2 (by rfl') (by rfl') (by rfl'))
   ·refine bz hc ?_
    nofun
    have:hZ (ds n) f z=(bh f==183):=by induction f using ai.cs<;>first|rfl|exact absurd rfl hc
    exact(fun _ k=>k (.refl ..) (by rfl') (by rfl') (by rw[this];rfl'))
  rintro l2 V2 L2 b1 b2 b3
  have L12:=L1.trans L2
  have hrv2:=hrv.mono L2.ro
  nofun
  induction hi:hZ (ds n) f z with
  |true=>
   nofun
   rw[hi]at h
   exact h _ L12
  |false=>
   nofun
   rw[hi,Bool.false_or]at h
   nofun
   refine ip hrv2.plain hrv2.none ?_
   nofun
   induction hst:aT (ds n) f as with
   |none=>
    rw[hst]at h
    nofun
    exact h _ L12
   |some ts=>
    rw[hst]at h hrv2
    refine dl hrv2 fun sa vs z2 i2 i3=>?_;subst z2
    have hgo:∀t∈ts,Gd n m t:=fun t ht=>hg.2.2.1 t (hmem hst t ht)
    have hal:ts.length<=3:=Nat.le_trans (hlen hst) hg.2.1
    nofun
    refine⟨_,ax (af i2),fun cenv CK=>?_⟩
    let F:I4:=fun i acc l' V' G=>Le [] V2 V'->Lk l' "name" (.str z 0)->(acc= .l (((ts.take i).map fun a=>(ds n a).2 z).map .bool))->G
    refine aq vs F ?_ ?_ ?_ vs.length 0 (Nat.zero_add _) (by exact fun _ k=>k (.refl ..) (by rfl') rfl)
    ·rintro i acc l' V' L - -
     exact aE (af (L.ro _ _ i2)) i
    ·rintro i y acc l' V' hy R hR L c1 rfl
     refine be (Paired.get i3 hy) fun t ht g=>?_
     nofun
     refine ab.at (ihS (g.mono L.ro) (hgo t (List.mem_of_getElem? ht)) (hF.mono (L12.trans L).ro) fun V3 L3=>?_) (by lia)
     refine⟨by rw[List.length_map,List.length_map,List.length_take];exact sz (by lia),(hR _ _ _ _ fun _ k=>k (L.trans L3) (by rfl') ?_)⟩
     rw[am ht,List.map_append,List.map_append];rfl
    ·rintro acc l' V' L c1 rfl
     rw[show ts.take vs.length=ts from List.take_of_length_le (by rw[i3.length];exact Nat.le_refl _)]
     intro la hla
     unfold Mine.gG
     refine jQ (af (aj ..)) (by lia) ?_
     nofun
     rw[gB]
     exact h _ ((L12.trans L).new1 hla)
theorem yA(KT:HK c):∀n,qt c n/\nI c n
 |0=>⟨fun h=>h.elim,fun h=>h.elim⟩
 |n+1=>let ⟨a,b⟩:=yA KT n;⟨tz KT a b,tA KT a b⟩
end
def fc(V:St)(box:Addr)(k:Nat):Prop:=∃ep,V box=some (.dict [("many",.int (k:Int) 0)] ep)
theorem fc.keep{V V':St}{box:Addr}{k:Nat}(h:fc V box k)(L:Le [] V V'):fc V' box k:=by obtain⟨ep,h⟩:=h;exact⟨ep,L.at0 h⟩
theorem fc.keepM{V V':St}{box:Addr}{k:Nat}{M:List Addr}(h:fc V box k)(L:Le M V V')(hm:box∉M):fc V' box k:=by obtain⟨ep,h⟩:=h;exact⟨ep,L.at h hm⟩
theorem dg{V:St}{box a:Addr}{k:Nat}(h:fc V box k)(ha:V a=none):a∉ [box]:=by
 refine dP h fun ep h=>?_
 simp only[List.mem_singleton]
 rintro rfl;rw[ha]at h;cases h
theorem fc.fzs{V:St}{box:Addr}{k:Nat}{as:List Addr}(h:fc V box k)(hn:box∉as):fc (fzs V as) box k:=by obtain⟨ep,h⟩:=h;exact⟨ep,by rw[gd _ hn];exact h⟩
theorem fc.touch{V:St}{box a:Addr}{k:Nat}{o':cq}(h:fc V box k)(hne:a∉ [box]):fc (V.set a o') box k:=by obtain⟨ep,h⟩:=h;exact⟨ep,by rw[aA _ _ (by intro q;exact hne (by simp[q]))];exact h⟩
theorem nL(f:ai):∀s,cy f=some s->s.flags.length<=2/\s.div=false:=by
 intro s hs
 induction f using ai.cs<;>first| (cases hs;done) |skip
 rename_i x
 unfold cy eD at hs
 dsimp only at hs
 split at hs
 ·cases hs;exact⟨by decide,rfl⟩
 ·split at hs
  ·cases hs;exact⟨by decide,rfl⟩
  ·split at hs
   ·cases hs
   ·split at hs
    ·cases hs;exact⟨by decide,rfl⟩
    ·cases hs;exact⟨by decide,rfl⟩
theorem fu:∀(n:Nat) (t:ai),Wf n t->∀k,k<=(aF n k t).2/\(aF n k t).2<=k+bQ n:=by
 intro zz
 induction zz with
 |zero=>
  intro t h k
  exact h.elim
 |succ n ih=>
  intro t h k
  have hc:bQ (n+1)=8*bQ n+8:=rfl
  rw[hc]
  induction t using ai.cs with
  |var x=>exact⟨Nat.le_refl _,by show k<=_;lia⟩
  |lit i=>exact⟨Nat.le_refl _,by show k<=_;lia⟩
  |lam ps b=>
   have:=ih b h.2 k
   exact⟨this.1,by show(aF n k b).2<=_;exact bK this.2⟩
  |con x as=>
   have h1:=cI (B:=bQ n) as k fun a ha=>ih a (h.2 a ha)
   have h2:as.length*bQ n<=4*bQ n:=Nat.mul_le_mul_right _ h.1
   exact⟨h1.1,by show(aZ (aF n) k as).2<=_;exact bC h1.2 h2⟩
  |prim x as=>
   have h1:=cI (B:=bQ n) as k fun a ha=>ih a (h.2 a ha)
   have h2:as.length*bQ n<=4*bQ n:=Nat.mul_le_mul_right _ h.1
   exact⟨h1.1,by show(aZ (aF n) k as).2<=_;exact bC h1.2 h2⟩
  |app f as=>
   have h1:=cI (B:=bQ n) as k fun a ha=>ih a (h.2.2 a ha)
   have h2:as.length*bQ n<=4*bQ n:=Nat.mul_le_mul_right _ h.2.1
   have h3:=o5 bj (cy f) as (aZ (aF n) k as).1 (aZ (aF n) k as).2 fun s hs=>Nat.le_trans (nL f s hs).1 (by decide)
   have h4:=ih f h.1 (ct bj (cy f) as (aZ (aF n) k as).1 (aZ (aF n) k as).2).k
   show k<=(aF n (ct bj (cy f) as (aZ (aF n) k as).1 (aZ (aF n) k as).2).k f).2/\(aF n (ct bj (cy f) as (aZ (aF n) k as).1 (aZ (aF n) k as).2).k f).2<=_
   exact jM (eu (eu h1 ⟨h3.1,h3.2.1⟩) h4) (by exact bK h2)
  |case e x alts o=>
   have h1:=gt (B:=bQ n) alts k fun a ha=>ih a.2 (h.2.2.1 a ha)
   have h2:alts.length*bQ n<=4*bQ n:=Nat.mul_le_mul_right _ h.2.1
   have h3:(ci (aF n) k alts).2<=(fP (aF n) (ci (aF n) k alts).2 o).2/\(fP (aF n) (ci (aF n) k alts).2 o).2<=(ci (aF n) k alts).2+bQ n:=by
    induction o with
    |none=>exact⟨Nat.le_refl _,Nat.le_add_right _ _⟩
    |some t=>exact ih t (h.2.2.2 t rfl) _
   have h4:=ih e h.1 (fP (aF n) (ci (aF n) k alts).2 o).2
   show k<=(aF n (fP (aF n) (ci (aF n) k alts).2 o).2 e).2/\(aF n (fP (aF n) (ci (aF n) k alts).2 o).2 e).2<=_
   exact jM (eu (eu h1 h3) h4) (by exact bK h2)
  |letn bs b r=>
   have h2:=hY (B:=bQ n) bs k fun a ha=>ih a.2 (h.2.2.2.1 a ha)
   have h1:=ih b h.2.2.2.2 (bO (aF n) k bs).2
   have h3:bs.length*bQ n<=2*bQ n:=Nat.mul_le_mul_right _ h.1
   show k<=(aF n (bO (aF n) k bs).2 b).2/\(aF n (bO (aF n) k bs).2 b).2<=_
   exact jM (eu h2 h1) (by exact bK h3)
section
variable{c:Cx}{d n:Nat}{env:Env}{l:au}{V:St}{p pos:Pos}{Q:Value->St->Prop}{QB:Bool->St->Prop}{QF:Fl->au->St->Prop}{QL:au->St->Prop}{ns:List (Str×NameKind)}
theorem vp{a:Addr}{vs:List Value}{v:Value}(hr:rd V a=some (.list (vs++ [v])))(hz:vs.length<1000000)(h:Q v V):J2 c d getItem (.ref a) (.int (-1) 0) V Q:=
 cm fun v0 w e e' A s Q' E' R H kk=>by
  refine dP (cU e') fun t z1=>?_;subst z1;obtain rfl:=a6 e
  refine be (H.rd hr) fun xs hl hx=>?_
  have hs:=bY hx
  rw[List.length_append]at hs
  have hs':xs.size=vs.length+1:=hs
  refine be (jc (i:=vs.length) (v:=v) hx (by simp)) fun u hu z2=>?_;subst z2
  refine wpAny_getItem_list_neg (k:= -1) hl.isList (by lia) (by lia) (by lia) ?_ (kk _ s.toks h)
  have:(-1+(xs.size:Int)).toNat=vs.length:=congrArg Int.toNat (show(-1:Int)+(xs.size:Int)=(vs.length:Int) by rw[hs',Int.add_comm];exact Int.add_neg_cancel_right (vs.length:Int) 1)
  rw[this];exact hu
theorem ph(KT:HK c){box:Addr}{k:Nat}{b:Str}(hk:k<100000000)(hb:b.length<=1000)(h1:fc V box k)
  (h:∀V',Le [box] V V'->fc V' box (k+1)->Q (.str (bl b (k+1)) 0) V'):ab c 1 (.ref 796) [.ref box,.str b 0] V Q:=by
 refine eC (x0:="box") (x1:="base") KT ?_
 intro env K
 try dsimp only at K
 refine dP h1 fun ep hx=>?_
 nofun
 refine⟨dw (af hx),dS (v:= .int (k:Int) 0) (af hx) rfl ?_⟩
 nofun
 refine jY ?_
 nofun
 refine jb hx (bW rfl) fun ep'=>?_
 have hst:stored ([(("many":Str),Value.int (k:Int) 0)]:Kv) "many" (.int ((k:Int)+1) 0)=([("many",.int ((k+1:Nat):Int) 0)]:Kv):=by
  unfold stored;simp
 rw[hst]
 have hx2:(V.set box (.dict [("many",.int ((k+1:Nat):Int) 0)] ep')) box=some (.dict [("many",.int ((k+1:Nat):Int) 0)] ep'):=aj ..
 nofun
 refine⟨dw (af hx2),dS (v:= .int ((k+1:Nat):Int) 0) (af hx2) rfl ?_⟩
 nofun
 refine oh (jK (by exact bK hk)) ?_
 refine jC (by have:=nz (k:=k+1) (by exact bK hk);exact bC hb this) ?_
 nofun
 exact h _ (.upd List.mem_cons_self hx (fun r q=>by cases q)) ⟨ep',hx2⟩
end
def xF(c:Cx)(n:Nat):Prop:=∀{V:St} {v:Value} {t:ai} {m:Nat} {box:Addr} {k:Nat} {Q:Value->St->Prop},Rp n V v t->Gd n m t->tO V->fc V box k->k+bQ n<=50000000->
 (∀r V',Le [box] V V'->Rp (3*n) V' r (aF n k t).1->fc V' box (aF n k t).2->Q r V')->ab c (50*n+10) (.ref 849) [v,.ref box] V Q
noncomputable def fY(flags:List Bool)(as args:List ai)(k i:Nat):Ah:=(List.range i).foldl (cw bj flags as) ⟨args,[],k⟩
theorem lU(flags:List Bool)(as args:List ai)(k i:Nat):fY flags as args k (i+1)=cw bj flags as (fY flags as args k i) i:=by
 unfold fY;rw[List.range_succ,List.foldl_append];rfl
theorem xG(flags:List Bool)(as args:List ai)(k i:Nat):(fY flags as args k i).k<=k+i/\(fY flags as args k i).args.length=args.length:=by
 have:=lJ bj flags as (List.range i) ⟨args,[],k⟩
 rw[List.length_range]at this
 exact⟨this.2.1,this.2.2⟩
theorem kb(flags:List Bool)(as args:List ai)(k:Nat):∀i,(fY flags as args k i).ahead.length<=i:=by
 intro zz
 induction zz with
 |zero=>
  exact Nat.le_refl _
 |succ i ih=>
  rw[lU]
  have:=ih
  refine jL (P:=fun z=>z.ahead.length<=i+1) (Nat.le_succ_of_le this) fun a b=>?_
  by_cases hd:de a=true
  ·rw[if_pos hd];exact Nat.le_succ_of_le this
  ·rw[if_neg hd,List.length_append];exact Nat.succ_le_succ this
theorem xH(n k:Nat)(x:Str):aF n k (.var x)=(.var x,k):=by induction n<;>rfl
section
variable{c:Cx}{d n:Nat}{env:Env}{l:au}{V:St}{p pos:Pos}{Q:Value->St->Prop}{QB:Bool->St->Prop}{QF:Fl->au->St->Prop}{QL:au->St->Prop}{ns:List (Str×NameKind)}
theorem vq(KT:HK c)(ih:xF c n){v:Value}{f:ai}{as:List ai}{m k:Nat}{box:Addr}(h1:Rp (n+1) V v (.app f as))(hg:Gd (n+1) m (.app f as))(hF:tO V)(h4:fc V box k)
  (hk:k+bQ (n+1)<=50000000)
  (h:∀r' V',Le [box] V V'->Rp (3* (n+1)) V' r' (aF (n+1) k (.app f as)).1->fc V' box (aF (n+1) k (.app f as)).2->Q r' V'):ab c (50*n+20) (.ref 854) [v,.ref box] V Q:=by
 refine ab.frz (eC (x0:="expr") (x1:="box") KT ?_)
 intro env K
 try dsimp only at K
 refine ku h1 fun fv a vs i1 i2 i3 i4=>?_
 have hc:bQ (n+1)=8*bQ n+8:=rfl
 have hla4:as.length<=3:=hg.2.1
 have hgo:∀t∈as,Gd n m t:=hg.2.2.1
 have hcall:=cI (f:=aF n) (B:=bQ n) as k fun a ha=>fu n a (hgo a ha).wf
 have hcl:as.length*bQ n<=4*bQ n:=Nat.mul_le_mul_right _ (by lia)
 let F:I2:=fun l1 V1 G=>Le [box] V V1->Lk l1 "expr" v->Lk l1 "box" (.ref box)->∀la ha rs,Lk l1 "args" (.ref la)->Lk l1 "rows" (.ref ha)->V la=none->V ha=none->la≠ha->la∉ [box]->ha∉ [box]->V1 la=some (.list rs)->V1 ha=some (.list [])->PySem.Paired (Rp (3*n) V1) rs (aZ (aF n) k as).1->fc V1 box (aZ (aF n) k as).2->G
 refine aC F ?_ ?_
 ·intro _ _
  nofun
  refine ao i1 KT (aS _) (bH _) rfl rfl ?_
  refine⟨_,ax (af i3),fun cenv CK=>?_⟩
  let F:I4:=fun i acc l' V' G=>Le [box] V V'->Lk l' "box" (.ref box)->∀rs,acc= .l rs->PySem.Paired (Rp (3*n) V') rs (aZ (aF n) k (as.take i)).1->fc V' box (aZ (aF n) k (as.take i)).2->G
  refine aq vs F ?_ ?_ ?_ vs.length 0 (Nat.zero_add _)
   (by exact fun _ k=>k (.refl ..) (by rfl') ([]) rfl .nil h4)
  ·rintro i acc l' V' L - - - - -
   exact aE (af (L.ro _ _ i3)) i
  ·rintro i y acc l' V' hy R hR L eK rs rfl hrs hfr
   refine be (Paired.get i4 hy) fun t ht g4=>?_
   have hcn:=cI (f:=aF n) (B:=bQ n) (as.take i) k fun a ha=>fu n a (hgo a (List.mem_of_mem_take ha)).wf
   have hcl2:(as.take i).length*bQ n<=4*bQ n:=Nat.mul_le_mul_right _ (by rw[List.length_take];lia)
   nofun
   refine ab.at (ih (g4.mono L.ro) (hgo t (List.mem_of_getElem? ht)) (hF.mono L.ro) hfr (by exact kI (Nat.le_of_eq hc.symm) hk hcn.2 hcl2) fun r V2 L2 hr hfr2=>?_) (by lia)
   refine⟨by rw[hrs.length,cR,List.length_take];exact sz (by lia),(hR _ _ _ _ fun _ k=>k (L.trans L2) (by rfl') (rs++ [r]) rfl ?_ ?_)⟩
   ·rw[am ht,cA]
    exact Paired.snoc' (Paired.imp (fun _ _ q=>q.mono L2.ro) hrs) hr
   ·rw[am ht,cA];exact hfr2
  ·rintro acc l' V' L eK rs rfl hrs hfr
   rw[show as.take vs.length=as from List.take_of_length_le (by rw[i4.length];exact Nat.le_refl _)]at hrs hfr
   intro la hla
   unfold Mine.gG
   nofun
   refine⟨Nat.zero_le _,fun ha hha=>?_⟩
   have hne:la≠ha:=Ne.symm (aO hha (aj ..))
   have L1:=L.new1 hla (o:= .list rs)
   have LA:Le [] V' ((V'.set la (.list rs)).set ha (.list [])):=(Le.new hla).new1 hha
   nofun
   exact(fun _ k=>k (L1.new1 hha) (by rfl') (by rfl') la ha rs (by rfl') (by rfl') (L.none0 hla (dg hfr hla)) (L1.none0 hha (dg (hfr.keep (.new hla)) hha)) hne (dg hfr hla) (dg (hfr.keep (.new hla)) hha) (by rw[aA _ _ hne,aj]) (aj ..) (Paired.imp (fun _ _ q=>q.mono LA.ro) hrs) (hfr.keep LA))
 rintro l1 V1 L1 b1 b2 la ha rs b4 b5 hla0 hha0 hlaha hlan hhan hla hha hrs hfr
 have hml:(aZ (aF n) k as).1.length=as.length:=cR ..
 have hres:aF (n+1) k (.app f as)=(gS (ct bj (cy f) as (aZ (aF n) k as).1 (aZ (aF n) k as).2).ahead (.app (aF n (ct bj (cy f) as (aZ (aF n) k as).1 (aZ (aF n) k as).2).k f).1 (ct bj (cy f) as (aZ (aF n) k as).1 (aZ (aF n) k as).2).args),(aF n (ct bj (cy f) as (aZ (aF n) k as).1 (aZ (aF n) k as).2).k f).2):=rfl
 rw[hres]at h
 clear hres
 clear F
 generalize aZ (aF n) k as=M at*
 nofun
 refine ao (i1.mono L1.ro) KT (aS _) (aU _) rfl i2.hand ?_
 nofun
 refine d9 KT (i2.mono L1.ro) rfl ?_
 nofun
 have hq4:=hg.2.2.2
 by_cases hv:(bh f==183)=true
 ·refine bu hv ?_
  induction f using ai.cs<;>first| (cases hv;done) |skip
  rename_i ps b
  have hgf:Gd n m (.lam ps b):=hq4.2
  nofun
  refine ao (i1.mono L1.ro) KT (aS _) (aU _) rfl i2.hand ?_
  nofun
  refine ab.at (ih (i2.mono L1.ro) hgf (hF.mono L1.ro) hfr (by exact kI (Nat.le_of_eq hc.symm) hk hcall.2 hcl) fun r4 V4 L4 hr4 hfr4=>?_) (by lia)
  nofun
  refine ab.at (lz (d:=0) KT fun r5 V5 L5 hr5=>?_) (by lia)
  nofun
  have hla5:V5 la=some (.list rs):=L5.at0 (L4.at hla hlan)
  have R16:Ro V1 (fzs V5 [la]):=fun b q hb=>aD _ _ _ _ (L5.ro _ _ (L4.ro _ _ hb))
  have R46:Ro V4 (fzs V5 [la]):=fun b q hb=>aD _ _ _ _ (L5.ro _ _ hb)
  refine⟨[la],h _ _ (aR ((L1.trans L4).trans L5.nil) (by simpa using .inl hla0)) (Rp.up (n:=3*n+1) ?_ (by lia)) ((hfr4.keep L5).fzs (by simpa [eq_comm]using hlan))⟩
  exact⟨r4,la,rs,hr5.mono (aD _ _),hr4.mono R46,aN List.mem_cons_self hla5 rfl,Paired.imp (fun _ _ q=>q.mono R16) hrs⟩
 refine bz hv ?_
 induction f using ai.cs<;>first|exact hq4.elim|exact absurd rfl hv|skip
 rename_i x
 have iv:=i2.varR
 rw[xH]at h
 have hrl:rs.length=as.length:=by rw[hrs.length,hml]
 refine fM (yz hF hq4) fun ep kvs t1 t2=>?_
 nofun
 refine k8 (af (L1.ro _ _ t1)) ⟨trivial,?_⟩
 nofun
 refine ao (i1.mono L1.ro) KT (aS _) (aU _) rfl i2.hand ?_
 refine ao (iv.mono L1.ro) KT (dE _) (bT _) rfl rfl ?_
 nofun
 refine⟨bW rfl,fun ea hea=>?_⟩
 have LE:Le [] V1 (V1.set ea (.list [])):= .new hea
 nofun
 refine ld (af (LE.ro _ _ (L1.ro _ _ t1))) ?_
 have hneA:la≠ea:=Ne.symm (aO hea hla)
 have hneH:ha≠ea:=Ne.symm (aO hea hha)
 have hla2:(V1.set ea (.list [])) la=some (.list rs):=by rw[aA _ _ hneA];exact hla
 have hha2:(V1.set ea (.list [])) ha=some (.list []):=by rw[aA _ _ hneH];exact hha
 have hrs2:PySem.Paired (Rp (3*n) (V1.set ea (.list []))) rs M.1:=Paired.imp (fun _ _ q=>q.mono LE.ro) hrs
 have hfr2:=hfr.keep LE
 have L2:Le [box] V (V1.set ea (.list [])):=L1.trans LE.nil
 have hcnt:=o5 bj (cy (.var x)) as M.1 M.2 fun s hs=>Nat.le_trans (nL _ s hs).1 (by decide)
 generalize hA:ct bj (cy (.var x)) as M.1 M.2=A at*
 generalize V1.set ea (.list [])=V2 at*
 let F:I2:=fun l3 V3 G=>Le [box] V V3->Lk l3 "expr" v->Lk l3 "args" (.ref la)->Lk l3 "rows" (.ref ha)->∀rs3 hs3,V3 la=some (.list rs3)->V3 ha=some (.list hs3)->PySem.Paired (Rp (3*n) V3) rs3 A.args->PySem.Paired (gj (3*n) V3) hs3 A.ahead->hs3.length<=2->fc V3 box A.k->G
 refine aC F ?_ ?_
 ·intro _ _
  rcases t2 with⟨rfl,u1,u2⟩ | ⟨fl,fa,u1,u2,u3,u4⟩
  ·have hkn:cy (.var "stop")=none:=by unfold cy;dsimp only;rw[u1];rfl
   rw[u2]
   nofun
   refine n9 (fun id q=>by cases q) ?_
   nofun
   have e:A=⟨M.1,[],M.2⟩:=by rw[←hA,hkn];rfl
   exact(fun _ k=>k L2 (by rfl') (by rfl') (by rfl') rs ([]) hla2 hha2 (by rw[e];exact hrs2) (by rw[e];exact .nil) (by simp) (by rw[e];exact hfr2))
  ·have hkn:cy (.var x)=some ⟨fl,[],false⟩:=by unfold cy;dsimp only;rw[u1];rfl
   have u4':=L2.ro _ _ u4
   rw[u3]
   nofun
   refine n9 (fun id q=>by cases q) ?_
   nofun
   refine cg (.inl (af hla2)) (by exact bC (Nat.le_of_eq hrl) hla4) ?_
   nofun
   refine cg (.inl (af u4')) (by rw[List.length_map];lia) ?_
   refine t8 ?_
   nofun
   rw[List.length_map,hrl]
   by_cases hge:as.length<fl.length
   ·refine bz (by simp;lia) ?_
    nofun
    have e:A=⟨M.1,[],M.2⟩:=by
     rw[←hA,hkn];unfold ct;dsimp only;rw[if_neg (by decide),if_pos (by rw[hml];exact hge)]
    exact(fun _ k=>k L2 (by rfl') (by rfl') (by rfl') rs ([]) hla2 hha2 (by rw[e];exact hrs2) (by rw[e];exact .nil) (by simp) (by rw[e];exact hfr2))
   ·refine bu (by simp;exact bK (Nat.le_of_not_lt hge)) ?_
    nofun
    refine cg (.inl (af u4')) (by rw[List.length_map];lia) ?_
    nofun
    refine eH fun ra hra=>?_
    rw[List.length_map]
    have hah:A=fY fl as M.1 M.2 fl.length:=by
     rw[←hA,hkn];unfold ct;dsimp only;rw[if_neg (by decide),if_neg (by rw[hml];exact hge)];rfl
    have hrla:la≠ra:=Ne.symm (aO hra hla2)
    have hrha:ha≠ra:=Ne.symm (aO hra hha2)
    have LR:Le [] V2 (V2.set ra (.range (fl.length:Nat))):= .new hra
    refine⟨_,dh (af (aj ..)) (by lia),?_⟩
    let F:I3:=fun i l3 V3 G=>Le [box] V V3->Lk l3 "expr" v->Lk l3 "box" (.ref box)->Lk l3 "args" (.ref la)->Lk l3 "rows" (.ref ha)->Lk l3 "flags" (.ref fa)->∀rs3 hs3,V3 la=some (.list rs3)->V3 ha=some (.list hs3)->PySem.Paired (Rp (3*n) V3) rs3 (fY fl as M.1 M.2 i).args->PySem.Paired (gj (3*n) V3) hs3 (fY fl as M.1 M.2 i).ahead->fc V3 box (fY fl as M.1 M.2 i).k->G
    refine cW ((List.range fl.length).map fun(j:Nat)=>Value.int (j:Int) 0) F ?_ ?_ ?_ fl.length 0 (by simp)
     (by exact fun _ k=>k (L2.trans LR.nil) (by rfl') (by rfl') (by rfl') (by rfl') (by rfl') rs [] (by rw[aA _ _ hrla];exact hla2) (by rw[aA _ _ hrha];exact hha2) (Paired.imp (fun _ _ q=>q.mono LR.ro) hrs2) .nil (hfr2.keep LR))
    ·rintro i l3 V3 _ _ _ _ _ _ _ _ _ _ _ _ _
     exact dH _ _
    ·rintro i y l3 V3 hy R hR L3 c2 c3 c4 c5 c6 rs3 hs3 hla3 hha3 hrs3 hhs3 hfr3
     rw[List.getElem?_map,Option.map_eq_some_iff]at hy
     refine be hy fun j hj z2=>?_;subst z2
     obtain⟨hlt,he⟩:=List.getElem?_eq_some_iff.mp hj
     rw[List.getElem_range]at he
     subst he
     rw[List.length_range]at hlt
     obtain⟨fb,hfl⟩:∃fb,fl[i]? =some fb:=⟨_,List.getElem?_eq_getElem hlt⟩
     have hilt:i<as.length:=by exact bC hlt (Nat.le_of_not_lt hge)
     obtain⟨t,hat⟩:∃t,as[i]? =some t:=⟨_,List.getElem?_eq_getElem hilt⟩
     have hkk2:=xG fl as M.1 M.2 i
     have hal:=hkk2.2
     rw[hml]at hal
     obtain⟨bt,hab⟩:∃bt,(fY fl as M.1 M.2 i).args[i]? =some bt:=⟨_,List.getElem?_eq_getElem (by exact bC hilt (Nat.le_of_eq hal.symm))⟩
     have hst:fY fl as M.1 M.2 (i+1)=cw bj fl as (fY fl as M.1 M.2 i) i:=lU _ _ _ _ _
     have hahl:=kb fl as M.1 M.2 i
     generalize hS:fY fl as M.1 M.2 i=S at hrs3 hhs3 hfr3 hab hst hkk2 hal hahl
     rw[fA hfl hat hab]at hst
     refine be (Paired.get2 i4 hat) fun xv hxv hxr=>?_
     refine be (Paired.get2 hrs3 hab) fun bv hbv hbr=>?_
     have u43:=L3.ro _ _ u4
     nofun
     refine⟨aL (af u43),aP (i:=i) (.inl (af u43)) rfl (by rw[List.getElem?_map,hfl];rfl) (by lia) ?_⟩
     nofun
     induction fb with
     |false=>
      rw[if_neg (by decide)]at hst
      nofun
      exact(fun _ k=>k L3 (by rfl') (by rfl') (by rfl') (by rfl') (by rfl') rs3 hs3 hla3 hha3 (by rw[hst];exact hrs3) (by rw[hst];exact hhs3) (by rw[hst];exact hfr3))
     |true=>
      rw[if_pos rfl]at hst
      nofun
      refine ao (i1.mono L3.ro) KT (aS _) (bH _) rfl rfl ?_
      nofun
      refine⟨aL (af (L3.ro _ _ i3)),aP (i:=i) (.inl (af (L3.ro _ _ i3))) rfl hxv (by lia) ?_⟩
      nofun
      refine ab.at (hV KT (hxr.mono L3.ro) fun V4 L4=>?_) (by lia)
      nofun
      have L34:=L3.trans L4.nil
      induction hdn:de t with
      |true=>
       rw[hdn,if_pos rfl]at hst
       nofun
       exact(fun _ k=>k L34 (by rfl') (by rfl') (by rfl') (by rfl') (by rfl') rs3 hs3 (L4.at0 hla3) (L4.at0 hha3) (by rw[hst];exact Paired.imp (fun _ _ q=>q.mono L4.ro) hrs3) (by rw[hst];exact Paired.imp (fun _ _ q=>q.mono L4.ro) hhs3) (by rw[hst];exact hfr3.keep L4))
      |false=>
       rw[hdn,if_neg (by decide)]at hst
       nofun
       have hfr4:=hfr3.keep L4
       have hha4:=L4.at0 hha3
       have hla4':=L4.at0 hla3
       refine dT hha4 ⟨trivial,?_⟩
       refine eF rfl (oX ?_)
       nofun
       refine ab.at (ph KT (by lia) (by decide+kernel) hfr4 fun V5 L5 hfr5=>?_) (by lia)
       nofun
       have hha5:=L5.at hha4 hhan
       have hla5:=L5.at hla4' hlan
       refine⟨aL (af hla5),aP (i:=i) (.inl (af hla5)) rfl hbv (by lia) ?_⟩
       nofun
       refine⟨bW rfl,fun w V6 L6 hw0 hw6=>?_⟩
       nofun
       have hha6:=L6.at0 hha5
       have hla6:=L6.at0 hla5
       refine dU hha6 (by rw[hhs3.length,sizeLine_eq];exact gi hahl hlt u2) ?_
       nofun
       have R6:Ro V6 (V6.set ha (.list (hs3++ [.ref w]))):=cj hha6 rfl
       have hw6':(V6.set ha (.list (hs3++ [.ref w]))) w=some (.ro (.tup [.str (bj (S.k+1)) 0,bv])):=R6 _ _ hw6
       have hhaS:(V6.set ha (.list (hs3++ [.ref w]))) ha=some (.list (hs3++ [.ref w])):=aj ..
       refine uS ?_
       refine⟨aL (af hhaS),vp (af hhaS) (by rw[hhs3.length];exact gi hahl hlt u2) ?_⟩
       nofun
       refine⟨cP (af hw6'),aP (i:=0) (.inr (.inr (af hw6'))) rfl rfl (by decide) ?_⟩
       nofun
       refine ab.at (iJ (d:=0) KT fun vv V7 L7 hv7=>?_) (by lia)
       nofun
       have hla7:V7 la=some (.list rs3):=L7.at0 (by rw[aA _ _ hlaha];exact hla6)
       have hrs3l:rs3.length=as.length:=by rw[hrs3.length];exact hal
       refine kB (i:=i) hla7 rfl (by exact bC hilt (Nat.le_of_eq hrs3l.symm)) (by exact bC (Nat.le_of_eq hrs3l) hla4) ?_
       nofun
       have R7:Ro V7 (V7.set la (.list (rs3.set i vv))):=cj hla7 rfl
       have LA:Le [box] V V6:=(L34.trans L5).trans L6.nil
       have LB:Le [box] V (V6.set ha (.list (hs3++ [.ref w]))):=LA.touch hha0 hha6 rfl
       have LC:Le [box] V V7:=LB.trans L7.nil
       have R36:Ro V3 V6:=fun b q hb=>L6.ro _ _ (L5.ro _ _ (L4.ro _ _ hb))
       have RR:Ro V6 (V7.set la (.list (rs3.set i vv))):=fun b q hb=>R7 _ _ (L7.ro _ _ (R6 _ _ hb))
       have R38:Ro V3 (V7.set la (.list (rs3.set i vv))):=fun b q hb=>RR _ _ (R36 _ _ hb)
       have hn1:1<=3*n:=by
        induction n using dQ with
        |zero=>exact hxr.elim
        |succ m=>lia
       have hvR:Rp (3*n) V7 vv (.var (bj (S.k+1))):=Rp.up (n:=1) (show Rp 1 V7 vv (.var (bj (S.k+1)))from hv7) hn1
       nofun
       refine(fun _ k=>k (LC.touch hla0 hla7 rfl) (by rfl') (by rfl') (by rfl') (by rfl') (by rfl') (rs3.set i vv) (hs3++ [.ref w]) (aj ..) (?_) (?_) (?_) (?_))
       ·rw[aA _ _ (Ne.symm hlaha)];exact L7.at0 (aj ..)
       ·rw[hst];exact Paired.set (Paired.imp (fun _ _ q=>q.mono R38) hrs3) i (hvR.mono R7)
       ·rw[hst];exact Paired.snoc' (Paired.imp (fun _ _ q=>q.mono R38) hhs3) ⟨w,bv,rfl,RR _ _ hw6,hbr.mono R38⟩
       ·rw[hst];exact((((hfr5.keep L6).touch hhan).keep L7).touch hlan)
    ·rintro l3 V3 L3 c2 c3 c4 c5 c6 rs3 hs3 hla3 hha3 hrs3 hhs3 hfr3
     have e:((List.range fl.length).map fun(j:Nat)=>Value.int (j:Int) 0).length=fl.length:=by simp
     rw[e]at hrs3 hhs3 hfr3
     have hahl:=kb fl as M.1 M.2 fl.length
     nofun
     exact(fun _ k=>k L3 c2 c4 c5 rs3 hs3 hla3 hha3 (by rw[hah];exact hrs3) (by rw[hah];exact hhs3) (by rw[hhs3.length];lia) (by rw[hah];exact hfr3))
 rintro l3 V3 L3 c1 c4 c5 rs3 hs3 hla3 hha3 hrs3 hhs3 hhl hfr3
 refine aG (br (E.frz ?_) rfl rfl rfl)
 nofun
 refine ao (i1.mono L3.ro) KT (aS _) (aU _) rfl i2.hand ?_
 nofun
 refine ab.at (lz (d:=0) KT fun r5 V5 L5 hr5=>?_) (by lia)
 refine⟨[la],?_⟩
 have hla5:V5 la=some (.list rs3):=L5.at0 hla3
 have hha5:(fzs V5 [la]) ha=some (.list hs3):=by rw[gd _ (by simpa [eq_comm]using hlaha)];exact L5.at0 hha3
 have L06:Le [box] V (fzs V5 [la]):=aR (L3.trans L5.nil) (by simpa using .inl hla0)
 have R36:Ro V3 (fzs V5 [la]):=fun b q hb=>aD _ _ _ _ (L5.ro _ _ hb)
 have hfr6:=(hfr3.keep L5).fzs (as:=[la]) (by simpa [eq_comm]using hlan)
 have hn1:1<=n:=by
  induction n using dQ with
  |zero=>exact i2.elim
  |succ m=>lia
 have happ:Rp (3*n+1) (fzs V5 [la]) r5 (.app (.var x) A.args):=
  ⟨fv,la,rs3,hr5.mono (aD _ _),(i2.mono L06.ro).up (by lia),aN List.mem_cons_self hla5 rfl,Paired.imp (fun _ _ q=>q.mono R36) hrs3⟩
 have hhr:PySem.Paired (gj (3*n) (fzs V5 [la])) hs3.reverse A.ahead.reverse:=Paired.reverse (Paired.imp (fun _ _ q=>q.mono R36) hhs3)
 generalize fzs V5 [la]=V6 at*
 nofun
 refine⟨ha,hs3,rfl,af hha5,?_⟩
 let F:I3:=fun i l4 V7 G=>Le [box] V V7->∀fdv,Lk l4 "found" fdv->Rp (3*n+1+i) V7 fdv ((A.ahead.reverse.take i).foldl (fun f p=> .case p.2 p.1 [] (some f)) (.app (.var x) A.args))->fc V7 box A.k->V7 ha=some (.list hs3)->PySem.Paired (gj (3*n) V7) hs3.reverse A.ahead.reverse->G
 refine cW hs3.reverse F ?_ ?_ ?_ hs3.reverse.length 0 (Nat.zero_add _)
  (by exact fun _ k=>k L06 r5 (by rfl') happ hfr6 hha5 hhr)
 ·rintro i l4 V7 L7 fdv u1 u2 u3 u4 u5
  exact As (af u4) i
 ·rintro i y l4 V7 hy _ _ L7 fdv u1 u2 u3 u4 u5
  refine be (Paired.get u5 hy) fun z0 ht zr=>?_;refine dl zr fun q tv z4 g1 g2=>?_;obtain⟨x',t⟩:=z0;subst z4
  dsimp only at g1 g2
  refine iY (af g1) rfl rfl ?_
  iterate 5 walk_at "me"
  refine aG (br (E.frz ?_) rfl rfl rfl)
  nofun
  refine⟨bW rfl,fun em hem=>?_⟩
  nofun
  have L8:Le [] V7 (V7.set em (.list [])):= .new hem
  refine ab.at (hN (d:=0) KT fun w V9 L9 hw9=>?_) (by lia)
  have L89:=L8.trans L9
  have hem0:em∉ [box]:=dg u3 hem
  refine⟨[em],?_⟩
  nofun
  have RR:Ro V7 (fzs V9 [em]):=fun b q hb=>aD _ _ _ _ (L89.ro _ _ hb)
  have hrbem:ha≠em:=Ne.symm (aO hem u4)
  refine(fun _ k=>k (aR (L7.trans L89.nil) (by simpa using .inl (L7.none0 hem hem0))) w (by rfl') ?_ ((u3.keep L89).fzs (by simpa [eq_comm]using hem0)) ?_ (Paired.imp (fun _ _ q=>q.mono RR) u5))
  ·rw[bw ht]
   show Rp (3*n+1+i+1) _ w (.case t x' [] (some _))
   exact⟨tv,em,[],fdv,hw9.mono (aD _ _),(g2.mono RR).up (by lia),aN List.mem_cons_self (L9.at0 (aj ..)) rfl,.nil,u2.mono RR⟩
  ·rw[gd _ (by simpa using hrbem)];exact L89.at0 u4
 ·rintro l4 V7 L7 fdv u1 u2 u3 u4 u5
  rw[show A.ahead.reverse.take hs3.reverse.length=A.ahead.reverse from List.take_of_length_le (by rw[u5.length];exact Nat.le_refl _)]at u2
  nofun
  refine⟨[],h _ _ L7 (u2.up (by rw[List.length_reverse];lia)) u3⟩
end
section
variable{c:Cx}{d n:Nat}{env:Env}{l:au}{V:St}{p pos:Pos}{Q:Value->St->Prop}{QB:Bool->St->Prop}{QF:Fl->au->St->Prop}{QL:au->St->Prop}{ns:List (Str×NameKind)}
theorem yB{x:Value}(h:Tr c d x V fun b V'=>Q (.bool (!b)) V'):J1 c d (unaryOp .Not) x V Q:=fun v e A s Q' E' R H k=>
 not_of (h v e A s _ E' R H fun b h' tk V' H' S q=>k (.bool (!b)) h' tk V' H' S q)
set_option maxHeartbeats 4000000 in
theorem qv{n:Nat}{bs:List (Str×ai)}{b t:ai}{r:Bool}{x:Str}(h2:bs.length<=2)(hx0:bs[0]? =some (x,t)):eI n bs b r=((bs.length==1&& !r&& !de t)&& !(ds n b).1&&(ds n b).2 x):=by
 induction bs using bD with
 |nil=>cases hx0
 |cons p q=>
  cases hx0
  induction q using bD with
  |nil=>rfl
  |cons p2 q=>induction q using bD with
   |nil=>rfl
   |cons p3 q=>exact absurd h2 (by simp)
set_option maxHeartbeats 1000000 in
theorem vr(KT:HK c)(ih:xF c n):xF c (n+1):=by
 intro V v t m box k Q h1 hg hF h4 hk h
 refine ab.deeper (d:=50*n+59+1) ?_ (by lia)
 refine ab.frz (eC (x0:="expr") (x1:="box") KT ?_)
 intro env K
 try dsimp only at K
 have hc:bQ (n+1)=8*bQ n+8:=rfl
 have h31:3* (n+1)=3*n+2+1:=by lia
 refine ff (yA KT n) fun hD hS=>?_
 nofun
 induction t using ai.cs with
 |var x=>
  refine az (b:=false) KT h1 rfl rfl ?_
  nofun
  exact⟨[],h _ _ (.refl ..) (h1.up (by lia)) h4⟩
 |lit x=>
  refine az (b:=false) KT h1 rfl rfl ?_
  nofun
  exact⟨[],h _ _ (.refl ..) (h1.up (by lia)) h4⟩
 |lam ps b=>
  refine az (b:=true) KT h1 rfl rfl ?_
  nofun
  refine dl h1 fun a bv i1 i2 i3=>?_
  refine sI hg fun p i z2 e2 e3 e4=>?_;subst z2
  refine ao i1 KT (bP _) (bB _) rfl rfl ?_
  nofun
  refine ao i1 KT (bP _) (cB _) rfl i3.hand ?_
  nofun
  refine ab.at (ih i3 e4 hF h4 (by exact bC hk (Nat.le_of_eq hc.symm)) fun r V2 L2 hr hfr2=>?_) (by lia)
  nofun
  refine ab.at (iO (d:=0) KT fun w V3 L3 hw3=>?_) (by lia)
  nofun
  have LL:Le [box] V V3:=L2.trans L3.nil
  refine⟨[],h _ _ LL ?_ (hfr2.keep L3)⟩
  rw[h31]
  exact⟨a,r,hw3,LL.ro _ _ i2,(hr.mono L3.ro).up (by lia)⟩
 |con x as=>
  refine az (b:=false) KT h1 rfl rfl ?_
  nofun
  refine az (b:=true) KT h1 rfl rfl ?_
  nofun
  refine dl h1 fun a vs i1 i2 i3=>?_
  have hal:as.length<=2:=by have:=hg.2.1;lia
  have hgo:∀t∈as,Gd n m t:=hg.2.2
  refine ao i1 KT (dk _) (dN _) rfl rfl ?_
  nofun
  refine ao i1 KT (dk _) (eM _) rfl rfl ?_
  refine⟨_,ax (af i2),fun cenv CK=>?_⟩
  let F:I4:=fun i acc l' V' G=>Le [box] V V'->Lk l' "box" (.ref box)->∀rs,acc= .l rs->PySem.Paired (Rp (3*n) V') rs (aZ (aF n) k (as.take i)).1->fc V' box (aZ (aF n) k (as.take i)).2->G
  refine aq vs F ?_ ?_ ?_ vs.length 0 (Nat.zero_add _)
   (by exact fun _ k=>k (.refl ..) (by rfl') ([]) rfl .nil h4)
  ·rintro i acc l' V' L - - - - -
   exact aE (af (L.ro _ _ i2)) i
  ·rintro i y acc l' V' hy R hR L eK rs rfl hrs hfr
   refine be (Paired.get i3 hy) fun t ht g4=>?_
   have hcn2:=cI (f:=aF n) (B:=bQ n) (as.take i) k fun a ha=>fu n a (hgo a (List.mem_of_mem_take ha)).wf
   have hcl2:(as.take i).length*bQ n<=4*bQ n:=Nat.mul_le_mul_right _ (by rw[List.length_take];lia)
   nofun
   refine ab.at (ih (g4.mono L.ro) (hgo t (List.mem_of_getElem? ht)) (hF.mono L.ro) hfr (by exact kI (Nat.le_of_eq hc.symm) hk hcn2.2 hcl2) fun r V2 L2 hr hfr2=>?_) (by lia)
   refine⟨by rw[hrs.length,cR,List.length_take];exact sz (by lia),(hR _ _ _ _ fun _ k=>k (L.trans L2) (by rfl') (rs++ [r]) rfl ?_ ?_)⟩
   ·rw[am ht,cA]
    exact Paired.snoc' (Paired.imp (fun _ _ q=>q.mono L2.ro) hrs) hr
   ·rw[am ht,cA];exact hfr2
  ·rintro acc l' V' L eK rs rfl hrs hfr
   rw[show as.take vs.length=as from List.take_of_length_le (by rw[i3.length];exact Nat.le_refl _)]at hrs hfr
   intro la hla
   unfold Mine.gG
   nofun
   have LA:Le [] V' (V'.set la (.list rs)):= .new hla
   refine ab.at (oW (d:=0) KT fun w V3 L3 hw3=>?_) (by lia)
   nofun
   have L13:Le [box] V V3:=L.trans (LA.trans L3).nil
   have hlan:=dg hfr hla
   have hla0:=L.none0 hla hlan
   have RR:Ro V' (fzs V3 [la]):=fun b q hb=>aD _ _ _ _ ((LA.trans L3).ro _ _ hb)
   refine⟨[la],h _ _ (aR L13 (by simpa using .inl hla0)) ?_ ((hfr.keep (LA.trans L3)).fzs (by simpa [eq_comm]using hlan))⟩
   rw[h31]
   exact⟨la,rs,hw3.mono (aD _ _),aN List.mem_cons_self (L3.at0 (aj ..)) rfl,Paired.imp (fun _ _ q=>(q.mono RR).up (by lia)) hrs⟩
 |prim x as=>
  refine az (b:=false) KT h1 rfl rfl ?_
  nofun
  refine az (b:=true) KT h1 rfl rfl ?_
  nofun
  refine dl h1 fun a vs i1 i2 i3=>?_
  have hal:as.length<=2:=by have:=hg.2.1;lia
  have hgo:∀t∈as,Gd n m t:=hg.2.2
  refine ao i1 KT (cn _) (dO _) rfl rfl ?_
  nofun
  refine ao i1 KT (cn _) (cT _) rfl rfl ?_
  refine⟨_,ax (af i2),fun cenv CK=>?_⟩
  let F:I4:=fun i acc l' V' G=>Le [box] V V'->Lk l' "box" (.ref box)->∀rs,acc= .l rs->PySem.Paired (Rp (3*n) V') rs (aZ (aF n) k (as.take i)).1->fc V' box (aZ (aF n) k (as.take i)).2->G
  refine aq vs F ?_ ?_ ?_ vs.length 0 (Nat.zero_add _)
   (by exact fun _ k=>k (.refl ..) (by rfl') ([]) rfl .nil h4)
  ·rintro i acc l' V' L - - - - -
   exact aE (af (L.ro _ _ i2)) i
  ·rintro i y acc l' V' hy R hR L eK rs rfl hrs hfr
   refine be (Paired.get i3 hy) fun t ht g4=>?_
   have hcn2:=cI (f:=aF n) (B:=bQ n) (as.take i) k fun a ha=>fu n a (hgo a (List.mem_of_mem_take ha)).wf
   have hcl2:(as.take i).length*bQ n<=4*bQ n:=Nat.mul_le_mul_right _ (by rw[List.length_take];lia)
   nofun
   refine ab.at (ih (g4.mono L.ro) (hgo t (List.mem_of_getElem? ht)) (hF.mono L.ro) hfr (by exact kI (Nat.le_of_eq hc.symm) hk hcn2.2 hcl2) fun r V2 L2 hr hfr2=>?_) (by lia)
   refine⟨by rw[hrs.length,cR,List.length_take];exact sz (by lia),(hR _ _ _ _ fun _ k=>k (L.trans L2) (by rfl') (rs++ [r]) rfl ?_ ?_)⟩
   ·rw[am ht,cA]
    exact Paired.snoc' (Paired.imp (fun _ _ q=>q.mono L2.ro) hrs) hr
   ·rw[am ht,cA];exact hfr2
  ·rintro acc l' V' L eK rs rfl hrs hfr
   rw[show as.take vs.length=as from List.take_of_length_le (by rw[i3.length];exact Nat.le_refl _)]at hrs hfr
   intro la hla
   unfold Mine.gG
   nofun
   have LA:Le [] V' (V'.set la (.list rs)):= .new hla
   refine ab.at (jH (d:=0) KT fun w V3 L3 hw3=>?_) (by lia)
   nofun
   have L13:Le [box] V V3:=L.trans (LA.trans L3).nil
   have hlan:=dg hfr hla
   have hla0:=L.none0 hla hlan
   have RR:Ro V' (fzs V3 [la]):=fun b q hb=>aD _ _ _ _ ((LA.trans L3).ro _ _ hb)
   refine⟨[la],h _ _ (aR L13 (by simpa using .inl hla0)) ?_ ((hfr.keep (LA.trans L3)).fzs (by simpa [eq_comm]using hlan))⟩
   rw[h31]
   exact⟨la,rs,hw3.mono (aD _ _),aN List.mem_cons_self (L3.at0 (aj ..)) rfl,Paired.imp (fun _ _ q=>(q.mono RR).up (by lia)) hrs⟩
 |case e x alts o=>
  refine az (b:=false) KT h1 rfl rfl ?_
  nofun
  refine az (b:=true) KT h1 rfl rfl ?_
  refine fg (jG (lr ?_))
  refine rO h1 fun xv a avs ov i1 i2 i3 i4 i5=>?_
  have hw:=hg.wf
  refine nT hg fun q1 q2 zr=>?_;refine yf zr fun i q3 q4 q5 q6=>?_
  have hcnA:=gt (f:=aF n) (B:=bQ n) alts k fun a ha=>fu n a.2 (hw.2.2.1 a ha)
  have hclA:alts.length*bQ n<=1*bQ n:=Nat.mul_le_mul_right _ (by lia)
  let F:I2:=fun l2 V2 G=>Le [box] V V2->Lk l2 "expr" v->Lk l2 "box" (.ref box)->∀la rs,Lk l2 "alts" (.ref la)->V la=none->la∉ [box]->V2 la=some (.list rs)->PySem.Paired (ru (3*n) V2) rs (ci (aF n) k alts).1->fc V2 box (ci (aF n) k alts).2->G
  refine aC F ?_ ?_
  ·intro _ _
   nofun
   refine ao i1 KT (aK _) (bZ _) rfl rfl ?_
   refine⟨_,ax (af i3),fun cenv CK=>?_⟩
   let F:I4:=fun i acc l' V' G=>Le [box] V V'->Lk l' "box" (.ref box)->∀rs,acc= .l rs->PySem.Paired (ru (3*n) V') rs (ci (aF n) k (alts.take i)).1->fc V' box (ci (aF n) k (alts.take i)).2->G
   refine aq avs F ?_ ?_ ?_ avs.length 0 (Nat.zero_add _)
    (by exact fun _ k=>k (.refl ..) (by rfl') ([]) rfl .nil h4)
   ·rintro i acc l' V' L - - - - -
    exact aE (af (L.ro _ _ i3)) i
   ·rintro i' y acc l' V' hy R hR L eK rs rfl hrs hfr
    obtain⟨⟨ki,t⟩,ht,ka,na,bv,g1,g2,g3,g4⟩:=Paired.get i4 hy
    have hgt:=(q5 _ (List.mem_of_getElem? ht)).2
    have hcn:=gt (f:=aF n) (B:=bQ n) (alts.take i') k fun a ha=>fu n a.2 (hw.2.2.1 a (List.mem_of_mem_take ha))
    have hcl:(alts.take i').length*bQ n<=1*bQ n:=Nat.mul_le_mul_right _ (by rw[List.length_take];lia)
    nofun
    refine ao (g1.mono L.ro) KT (bV _) (dq _) rfl rfl ?_
    nofun
    refine ao (g1.mono L.ro) KT (bV _) (dY _) rfl rfl ?_
    nofun
    refine ao (g1.mono L.ro) KT (bV _) (du _) rfl g4.hand ?_
    nofun
    refine ab.at (ih (g4.mono L.ro) hgt (hF.mono L.ro) hfr (by exact kI (Nat.le_of_eq hc.symm) hk hcn.2 hcl) fun r V2 L2 hr hfr2=>?_) (by lia)
    nofun
    refine ab.at (oV (d:=0) KT fun w V3 L3 hw3=>?_) (by lia)
    have L':=L.trans (L2.trans L3.nil)
    have hrl:rs.length<=1:=by rw[hrs.length,lI,List.length_take];lia
    refine⟨sz (by lia),(hR _ _ _ _ fun _ k=>k L' (by rfl') (rs++ [w]) rfl ?_ ?_)⟩
    ·rw[am ht,ir]
     refine Paired.snoc' (Paired.imp (fun _ _ q=>(q.mono L2.ro).mono L3.ro) hrs) ⟨ka,na,r,hw3,(L2.trans L3.nil).ro _ _ (L.ro _ _ g2),(L2.trans L3.nil).ro _ _ (L.ro _ _ g3),hr.mono L3.ro⟩
    ·rw[am ht,ir]
     exact hfr2.keep L3
   ·rintro acc l' V' L eK rs rfl hrs hfr
    rw[show alts.take avs.length=alts from List.take_of_length_le (by rw[i4.length];exact Nat.le_refl _)]at hrs hfr
    intro la hla
    unfold Mine.gG
    nofun
    have LA:Le [] V' (V'.set la (.list rs)):= .new hla
    exact(fun _ k=>k (L.new1 hla) (by rfl') (by rfl') la rs (by rfl') (L.none0 hla (dg hfr hla)) (dg hfr hla) (aj ..) (Paired.imp (fun _ _ q=>q.mono LA.ro) hrs) (hfr.keep LA))
  rintro l2 V2 L2 b1 b2 la rs b3 hla0 hlan hla hrs hfr
  let F:I2:=fun l3 V3 G=>Le [box] V2 V3->Lk l3 "expr" v->Lk l3 "box" (.ref box)->Lk l3 "alts" (.ref la)->∀ov',Lk l3 "other" ov'->(match(fP (aF n) (ci (aF n) k alts).2 o).1 with|none=>ov'= .none|some t=>Rp (3*n) V3 ov' t)->fc V3 box (fP (aF n) (ci (aF n) k alts).2 o).2->G
  refine aC F ?_ ?_
  ·intro _ _
   nofun
   refine ao (i1.mono L2.ro) KT (aK _) (bg _) rfl (by cases o with|none=>rw[show ov= .none from i5];rfl|some t=>exact Rp.hand (n:=n) i5) ?_
   nofun
   refine gZ (by cases o with|none=>(rw[show ov= .none from i5];exact fun id q=>by cases q) |some t=>exact Rp.plain (n:=n) i5) ?_
   nofun
   induction o with
   |none=>
    rw[show ov= .none from i5,if_pos (show(Value.none==Value.none)=true from rfl)]
    nofun
    exact(fun _ k=>k (.refl ..) (by rfl') (by rfl') (by rfl') _ (by rfl') rfl hfr)
   |some t=>
    have g4:Rp n V ov t:=i5
    rw[g4.notNone,if_neg (by decide)]
    nofun
    refine ao (i1.mono L2.ro) KT (aK _) (bg _) rfl g4.hand ?_
    nofun
    refine ab.at (ih (g4.mono L2.ro) (q6 t rfl) (hF.mono L2.ro) hfr (by exact kI (Nat.le_of_eq hc.symm) hk hcnA.2 hclA) fun r V3 L3 hr hfr2=>?_) (by lia)
    nofun
    exact(fun _ k=>k L3 (by rfl') (by rfl') (by rfl') _ (by rfl') hr hfr2)
  rintro l3 V3 L3 c1 c2 c3 ov' c4 hov hfr3
  have L23:=L2.trans L3
  have hco:(ci (aF n) k alts).2<=(fP (aF n) (ci (aF n) k alts).2 o).2/\(fP (aF n) (ci (aF n) k alts).2 o).2<=(ci (aF n) k alts).2+bQ n:=by
   induction o with
   |none=>exact⟨Nat.le_refl _,Nat.le_add_right _ _⟩
   |some t=>exact fu n t (hw.2.2.2 t rfl) _
  nofun
  refine ao (i1.mono L23.ro) KT (aK _) (cC _) rfl i2.hand ?_
  nofun
  refine ab.at (ih (i2.mono L23.ro) q2 (hF.mono L23.ro) hfr3 (o6 (eu hcnA hco) hk (by exact bK hclA:_+bQ n<=8*bQ n+8)) fun r V4 L4 hr hfr4=>?_) (by lia)
  nofun
  refine ao (i1.mono (L23.trans L4).ro) KT (aK _) (dv _) rfl rfl ?_
  nofun
  refine ab.at (hN (d:=0) KT fun w V5 L5 hw5=>?_) (by lia)
  nofun
  have L45:=L4.trans L5.nil
  have LL:=L23.trans L45
  have hla5:V5 la=some (.list rs):=(L3.trans L45).at hla hlan
  refine⟨[la],h _ _ (aR LL (by simpa using .inl hla0)) ?_ ((hfr4.keep L5).fzs (by simpa [eq_comm]using hlan))⟩
  have R2:Ro V2 (fzs V5 [la]):=fun b q hb=>aD _ _ _ _ ((L3.trans L45).ro _ _ hb)
  have R3:Ro V3 (fzs V5 [la]):=fun b q hb=>aD _ _ _ _ (L45.ro _ _ hb)
  have R4:Ro V4 (fzs V5 [la]):=fun b q hb=>aD _ _ _ _ (L5.ro _ _ hb)
  rw[h31]
  show Rp (3*n+2+1) _ w (.case _ x _ _)
  refine⟨r,la,rs,ov',hw5.mono (aD _ _),(hr.mono R4).up (by lia),aN List.mem_cons_self hla5 rfl,Paired.imp (fun _ _ q=>(q.mono R2).up (by lia)) hrs,?_⟩
  revert hov
  cases (fP (aF n) (ci (aF n) k alts).2 o).1 with
  |none=>exact fun q=>q
  |some t=>exact fun q=>(Rp.mono R3 q).up (by lia)
 |letn bs b r=>
  refine az (b:=false) KT h1 rfl rfl ?_
  nofun
  refine az (b:=true) KT h1 rfl rfl ?_
  refine fg (jG (lr ?_))
  refine ku h1 fun a pvs bv i1 i2 i3 i4=>?_
  have hw:=hg.wf
  refine tL hg fun q1 q2 q3 q4 zr=>?_;refine iz zr fun i q5 q6 q7=>?_
  have hcb:=hY (f:=aF n) (B:=bQ n) bs k fun a ha=>fu n a.2 (hw.2.2.2.1 a ha)
  have hcl:bs.length*bQ n<=2*bQ n:=Nat.mul_le_mul_right _ q2
  have hrl:(bO (aF n) k bs).1.length=bs.length:=eo ..
  let F:I2:=fun l3 V3 G=>Le [box] V V3->Lk l3 "expr" v->Lk l3 "box" (.ref box)->∀lb rs by',Lk l3 "binds" (.ref lb)->Lk l3 "body" by'->V lb=none->lb∉ [box]->V3 lb=some (.list rs)->PySem.Paired (gj (3*n) V3) rs (bO (aF n) k bs).1->Rp (3*n) V3 by' (aF n (bO (aF n) k bs).2 b).1->fc V3 box (aF n (bO (aF n) k bs).2 b).2->G
  refine aC F ?_ ?_
  ·intro _ _
   nofun
   refine ao i1 KT (aM _) (bf _) rfl rfl ?_
   refine⟨_,ax (af i2),fun cenv CK=>?_⟩
   let F:I4:=fun i acc l' V' G=>Le [box] V V'->Lk l' "box" (.ref box)->∀rs,acc= .l rs->PySem.Paired (gj (3*n) V') rs (bO (aF n) k (bs.take i)).1->fc V' box (bO (aF n) k (bs.take i)).2->G
   refine aq pvs F ?_ ?_ ?_ pvs.length 0 (Nat.zero_add _)
    (by exact fun _ k=>k (.refl ..) (by rfl') ([]) rfl .nil h4)
   ·rintro i acc l' V' L - - - - -
    exact aE (af (L.ro _ _ i2)) i
   ·rintro i' y acc l' V' hy R hR L eK rs rfl hrs hfr
    refine be (Paired.get i3 hy) fun z0 ht zr=>?_;refine dl zr fun q tv z4 g1 g2=>?_;obtain⟨x,t⟩:=z0;subst z4
    have hgt:=(q6 _ (List.mem_of_getElem? ht)).2
    have hcn:=hY (f:=aF n) (B:=bQ n) (bs.take i') k fun a ha=>fu n a.2 (hw.2.2.2.1 a (List.mem_of_mem_take ha))
    have hcl2:(bs.take i').length*bQ n<=2*bQ n:=Nat.mul_le_mul_right _ (by rw[List.length_take];lia)
    dsimp only at g1 g2
    refine dp (af (L.ro _ _ g1)) rfl rfl ?_
    walk_at "goT"
    refine ab.at (ih (g2.mono L.ro) hgt (hF.mono L.ro) hfr (by exact kI (Nat.le_of_eq hc.symm) hk hcn.2 hcl2) fun r1 V3 L3 hr1 hfr3=>?_) (by lia)
    nofun
    refine⟨bW rfl,fun w V4 L4 hw0 hw4=>?_⟩
    have L34:=L3.trans L4.nil
    have hrl:rs.length<=2:=by rw[hrs.length,eo,List.length_take];lia
    refine⟨sz (by lia),(hR _ _ _ _ fun _ k=>k (L.trans L34) (by rfl') (rs++ [.ref w]) rfl ?_ ?_)⟩
    ·rw[am ht,fy]
     exact Paired.snoc' (Paired.imp (fun _ _ q=>q.mono L34.ro) hrs) ⟨w,r1,rfl,hw4,hr1.mono L4.ro⟩
    ·rw[am ht,fy];exact hfr3.keep L4
   ·rintro acc l' V' L eK rs rfl hrs hfr
    rw[show bs.take pvs.length=bs from List.take_of_length_le (by rw[i3.length];exact Nat.le_refl _)]at hrs hfr
    intro lb hlb
    unfold Mine.gG
    dsimp only
    have LB:Le [] V' (V'.set lb (.list rs)):= .new hlb
    have L1:=L.new1 hlb (o:= .list rs)
    have hfr1:=hfr.keep LB
    have hlbn:=dg hfr hlb
    have hlb1:(V'.set lb (.list rs)) lb=some (.list rs):=aj ..
    have hlb0:=L.none0 hlb hlbn
    have hrs1:PySem.Paired (gj (3*n) (V'.set lb (.list rs))) rs (bO (aF n) k bs).1:=Paired.imp (fun _ _ q=>q.mono LB.ro) hrs
    generalize V'.set lb (.list rs)=V1 at*
    nofun
    refine ao (i1.mono L1.ro) KT (aM _) (bI _) rfl i4.hand ?_
    nofun
    refine ab.at (ih (i4.mono L1.ro) q7 (hF.mono L1.ro) hfr1 (by exact kI (Nat.le_of_eq hc.symm) hk hcb.2 hcl) fun r1 V2 L2 hr1 hfr2=>?_) (by lia)
    nofun
    exact(fun _ k=>k (L1.trans L2) (by rfl') (by rfl') lb rs r1 (by rfl') (by rfl') hlb0 hlbn (L2.at hlb1 hlbn) (Paired.imp (fun _ _ q=>q.mono L2.ro) hrs1) hr1 hfr2)
  rintro l3 V3 L3 d1 d2 lb rs by' d3 d4 hlb0 hlbn hlb hrs hby hfr3
  have hrsl:rs.length=bs.length:=by rw[hrs.length,eo]
  obtain⟨⟨x,t⟩,hx0⟩:∃p,bs[0]? =some p:=⟨_,List.getElem?_eq_getElem (by exact q1)⟩
  refine be (Paired.get2 i3 hx0) fun pv hpv zr=>?_;refine dl zr fun q0 tv z4 g1 g2=>?_;subst z4
  dsimp only at g1 g2
  let F:I2:=fun l4 V4 G=>V3=V4->Lk l4 "expr" v->Lk l4 "box" (.ref box)->Lk l4 "binds" (.ref lb)->Lk l4 "body" by'->Lk l4 "name" (.str x 0)->Lk l4 "value" tv->G
  refine aC F ?_ ?_
  ·intro _ _
   nofun
   refine ao (i1.mono L3.ro) KT (aM _) (bf _) rfl rfl ?_
   nofun
   refine⟨aL (af (L3.ro _ _ i2)),aP (i:=0) (.inl (af (L3.ro _ _ i2))) rfl hpv (by decide) ?_⟩
   refine iY (af (L3.ro _ _ g1)) rfl rfl ?_
   nofun
   exact(fun _ k=>k rfl (by rfl') (by rfl') (by rfl') (by rfl') (by rfl') (by rfl'))
  rintro l4 V4 rfl e1 e2 e3 e4 e5 e6
  let F:I2:=fun l5 V5 G=>Le [] V3 V5->Lk l5 "expr" v->Lk l5 "box" (.ref box)->Lk l5 "binds" (.ref lb)->Lk l5 "body" by'->Lk l5 "name" (.str x 0)->Lk l5 "is_one" (.bool (bs.length==1&& !r&& !de t))->G
  refine aC F ?_ ?_
  ·intro _ _
   nofun
   refine cg (.inl (af hlb)) (by exact bC (Nat.le_of_eq hrsl) q2) ?_
   nofun
   refine i9 ?_
   nofun
   rw[hrsl]
   by_cases hb1:bs.length=1
   ·have e1':(bs.length==1)=true:=by rw[hb1];rfl
    refine bu (by rw[hb1];rfl) ?_
    nofun
    refine ao (i1.mono L3.ro) KT (aM _) (bp _) rfl rfl ?_
    refine yB (fg ?_)
    nofun
    induction r with
    |true=>
     nofun
     exact(fun _ k=>k (.refl ..) (by rfl') (by rfl') (by rfl') (by rfl') (by rfl') (by rw[e1',Bool.true_and];rfl'))
    |false=>
     nofun
     refine ab.at (hV KT (g2.mono L3.ro) fun V5 L5=>?_) (by lia)
     refine yB (fg ?_)
     nofun
     exact(fun _ k=>k L5 (by rfl') (by rfl') (by rfl') (by rfl') (by rfl') (by rw[e1',Bool.true_and];rfl'))
   ·have e1':(bs.length==1)=false:=by simpa using hb1
    refine bz (by simp;lia) ?_
    have e2':(decide ((bs.length:Int)=1))=false:=by simp;lia
    have e3':(((bs.length:Nat):Int)==1)=false:=by simp;lia
    rw[e3']
    nofun
    exact(fun _ k=>k (.refl ..) (by rfl') (by rfl') (by rfl') (by rfl') (by rfl') (by rw[e1',Bool.false_and,Bool.false_and];rfl'))
  rintro l5 V5 L5 f1 f2 f3 f4 f5 f6
  have L35:=L3.trans L5.nil
  have hto:=qv (n:=n) (b:=b) (r:=r) q2 hx0
  have hrs5:PySem.Paired (gj (3*n) V5) rs (bO (aF n) k bs).1:=Paired.imp (fun _ _ q=>q.mono L5.ro) hrs
  have hby5:=hby.mono L5.ro
  have hfr5:=hfr3.keep L5
  have hlb5:=L5.at0 hlb
  let F:I2:=fun l6 V6 G=>Le [] V5 V6->Lk l6 "expr" v->Lk l6 "binds" (.ref lb)->Lk l6 "body" by'->eI n bs b r=false->G
  refine aC F ?_ ?_
  ·intro _ _
   nofun
   induction ho:(bs.length==1&& !r&& !de t)with
   |false=>
    nofun
    exact(fun _ k=>k (.refl ..) f1 f3 f4 (by rw[hto,ho];rfl))
   |true=>
    nofun
    refine ao (i1.mono L35.ro) KT (aM _) (bI _) rfl i4.hand ?_
    nofun
    refine ab.at (hD (i4.mono L35.ro) q7 (hF.mono L35.ro) fun V6 L6=>?_) (by lia)
    nofun
    induction hd:(ds n b).1 with
    |true=>
     nofun
     exact(fun _ k=>k L6 f1 f3 f4 (by rw[hto,hd];simp))
    |false=>
     nofun
     have L36:=L35.trans L6.nil
     refine ao (i1.mono L36.ro) KT (aM _) (bI _) rfl i4.hand ?_
     nofun
     refine ab.at (hS (i4.mono L36.ro) q7 (hF.mono L36.ro) fun V7 L7=>?_) (by lia)
     nofun
     have L67:=L6.trans L7
     induction hs:(ds n b).2 x with
     |false=>
      nofun
      exact(fun _ k=>k L67 f1 f3 f4 (by rw[hto,hs];simp))
     |true=>
      nofun
      have hb1:bs.length=1:=by
       induction he:(bs.length==1)with
       |true=>simpa using he
       |false=>rw[he]at ho;cases ho
      have hrf:r=false:=by
       induction r with
       |false=>rfl
       |true=>simp at ho
      refine dP (List.length_eq_one_iff.mp hb1) fun p0 z1=>?_;subst z1
      obtain rfl:p0=(x,t):=by simpa using hx0
      have hmb:(bO (aF n) k [(x,t)]).1=[(x,(aF n k t).1)]:=rfl
      have hrs7:PySem.Paired (gj (3*n) V7) rs (bO (aF n) k [(x,t)]).1:=Paired.imp (fun _ _ q=>q.mono L67.ro) hrs5
      rw[hmb]at hrs7
      cases hrs7 with|cons hy0 hs0=>
      cases hs0
      refine dl hy0 fun q2' tv2 z2 u1 u2=>?_;subst z2
      dsimp only at u1 u2
      have hlb7:=L67.at0 hlb5
      nofun
      refine⟨aL (af hlb7),aP (i:=0) (.inl (af hlb7)) rfl rfl (by decide) ?_⟩
      nofun
      refine⟨cP (af u1),aP (i:=1) (.inr (.inr (af u1))) rfl rfl (by decide) ?_⟩
      nofun
      refine⟨bW rfl,fun em hem=>?_⟩
      nofun
      have L8:Le [] V7 (V7.set em (.list [])):= .new hem
      refine ab.at (hN (d:=0) KT fun w V9 L9 hw9=>?_) (by lia)
      nofun
      have L79:=L8.trans L9
      have LL:Le [box] V V9:=L35.trans (L67.trans L79).nil
      have hemn:=dg (hfr5.keep L67) hem
      have hem0:V em=none:=L35.none0 (L67.none0 hem nn) hemn
      have R7:Ro V7 (fzs V9 [em]):=fun b q hb=>aD _ _ _ _ (L79.ro _ _ hb)
      have R5:Ro V5 (fzs V9 [em]):=fun b q hb=>R7 _ _ (L67.ro _ _ hb)
      refine⟨[em],h _ _ (aR LL (by simpa using .inl hem0)) ?_ ((hfr5.keep (L67.trans L79)).fzs (by simpa [eq_comm]using hemn))⟩
      rw[h31]
      show Rp (3*n+2+1) _ w (qn (eI n [(x,t)] b r) (bO (aF n) k [(x,t)]).1 (aF n (bO (aF n) k [(x,t)]).2 b).1 r)
      rw[hto,ho,hd,hs]
      exact⟨tv2,em,[],by',hw9.mono (aD _ _),(u2.mono R7).up (by lia),aN List.mem_cons_self (L9.at0 (aj ..)) rfl,.nil,(hby5.mono R5).up (by lia)⟩
  ·rintro l6 V6 L6 k1 k2 k3 hf
   nofun
   refine ao (i1.mono (L35.trans L6.nil).ro) KT (aM _) (bp _) rfl rfl ?_
   nofun
   refine ab.at (rc (d:=0) KT fun w V7 L7 hw7=>?_) (by lia)
   nofun
   have L67:=L6.trans L7
   have hle:Le [box] V V7:=L35.trans L67.nil
   refine⟨[lb],h _ _ (aR hle (by simpa using .inl hlb0)) ?_ ((hfr5.keep L67).fzs (by simpa [eq_comm]using hlbn))⟩
   have R5:Ro V5 (fzs V7 [lb]):=fun b q hb=>aD _ _ _ _ (L67.ro _ _ hb)
   rw[h31]
   show Rp (3*n+2+1) _ w (qn (eI n bs b r) (bO (aF n) k bs).1 (aF n (bO (aF n) k bs).2 b).1 r)
   rw[hf]
   exact⟨lb,rs,by',hw7.mono (aD _ _),aN List.mem_cons_self (L67.at0 hlb5) rfl,Paired.imp (fun _ _ q=>(q.mono R5).up (by lia)) hrs5,(hby5.mono R5).up (by lia)⟩
 |app f as=>
  refine az (b:=false) KT h1 rfl rfl ?_
  nofun
  refine az (b:=true) KT h1 rfl rfl ?_
  nofun
  refine ab.at (vq KT ih h1 hg hF h4 hk fun r V2 L2 hr hfr2=>?_) (by lia)
  nofun
  exact⟨[],h _ _ L2 hr hfr2⟩
theorem vt(KT:HK c):∀n,xF c n
 |0=>fun h=>h.elim
 |n+1=>vr KT (vt KT n)
end
def jn(V:St)(src:Addr):Prop:=∃a b:Int,V src=some (.list [.int a 0,.int b 0])/\0<=b/\b<2147483647
theorem jn.keepM{V V':St}{src:Addr}{M:List Addr}(h:jn V src)(L:Le M V V')(hm:src∉M):jn V' src:=by obtain⟨a,b,h,q⟩:=h;exact⟨a,b,L.at h hm,q⟩
theorem jn.keep{V V':St}{src:Addr}(h:jn V src)(L:Le [] V V'):jn V' src:=h.keepM L nn
theorem jo{a b:Int}(hb:0<b):∃g:Nat,a.fmod b=(g:Int)/\(g:Int)<b:=by
 have h1:=Int.fmod_nonneg_of_pos a hb
 have h2:=Int.fmod_lt_of_pos a hb
 exact⟨(a.fmod b).toNat,(Int.toNat_of_nonneg h1).symm,by rw[Int.toNat_of_nonneg h1];exact h2⟩
theorem nM{b:Int}(h0:0<=b)(h:b<4294967296)(hz:¬b=0):b.natAbs.log2<32:=by
 obtain⟨n,rfl⟩:=Int.eq_ofNat_of_zero_le h0
 exact(Nat.log2_lt fun q=>hz (congrArg Int.ofNat q)).mpr (Int.ofNat_lt.mp h)
theorem rF{b:Int}(h0:0<=b)(h:b<4294967296):Builtin.Int.intBits b<=64:=by
 unfold Builtin.Int.intBits
 split
 ·decide
 ·rename_i q
  have:=nM h0 h (fun e=>q (beq_iff_eq.mpr e))
  exact bK this
theorem nN{a b:Int}(h0:0<b)(h:b<4294967296):¬(Builtin.divisionGoesByPylong a b)=true:=by
 unfold Builtin.divisionGoesByPylong
 have hz:¬b=0:=Int.ne_of_gt h0
 have:=nM (Int.le_of_lt h0) h hz
 intro q
 have q1:=of_decide_eq_true ((Bool.and_eq_true _ _).mp q).1
 dsimp only at q1
 rw[if_neg (fun e=>hz (beq_iff_eq.mp e))]at q1
 exact absurd q1 (Nat.not_lt.mpr (Nat.le_trans (Nat.succ_le_succ (Nat.div_le_self _ _)) (fQ this rfl)))
theorem lV{b:Int}(h:0<b):¬(b==0)=true:=by simp;lia
section
variable{c:Cx}{d n:Nat}{env:Env}{l:au}{V:St}{p pos:Pos}{Q:Value->St->Prop}{QB:Bool->St->Prop}{QF:Fl->au->St->Prop}{QL:au->St->Prop}{ns:List (Str×NameKind)}
theorem gP(KT:HK c){src:Addr}{top:Int}(h1:jn V src)(ht:1<=top)(ht2:top<=1000)(h:∀(g:Nat) V',(g:Int)<top->Le [src] V V'->jn V' src->Q (.int (g:Int) 0) V'):ab c 1 (.ref 782) [.ref src,.int top 0] V Q:=by
 refine eC (x0:="source") (x1:="top") KT ?_
 intro env K
 try dsimp only at K
 refine dl h1 fun a b hx hb0 hb1=>?_
 nofun
 refine⟨aL (af hx),aP (i:=0) (.inl (af hx)) rfl rfl (by decide) ?_⟩
 nofun
 refine pO ?_
 nofun
 by_cases ha:a>0
 ·refine bu (by simpa using ha) ?_
  nofun
  refine⟨aL (af hx),aP (i:=0) (.inl (af hx)) rfl rfl (by decide) ?_⟩
  nofun
  refine hE ?_
  nofun
  refine m0 ?_ (lV (by lia))
  nofun
  refine⟨aL (af hx),aP (i:=0) (.inl (af hx)) rfl rfl (by decide) ?_⟩
  nofun
  refine yk ?_ (lV (by lia)) (nN (by omega) (by omega))
  nofun
  refine kB (i:=0) hx rfl (by simp) (by simp) ?_
  nofun
  refine be (jo (a:=a) (b:=top) (by lia)) fun g e1 e2=>?_
  rw[e1]
  exact h g _ e2 (.upd List.mem_cons_self hx (fun r q=>by cases q)) ⟨_,b,aj ..,hb0,hb1⟩
 ·refine bz (by simpa using ha) ?_
  nofun
  refine⟨aL (af hx),aP (i:=1) (.inl (af hx)) rfl rfl (by decide) ?_⟩
  nofun
  refine kT ?_ (.of_right (by decide+kernel))
  nofun
  refine jY ?_
  nofun
  refine hE ?_
  nofun
  refine m0 ?_ (by decide)
  refine be (jo (a:=b*39373+7) (b:=2147483647) (by lia)) fun g e1 e2=>?_
  rw[e1]
  nofun
  refine kB (i:=1) hx rfl (by simp) (by simp) ?_
  nofun
  have hx2:(V.set src (.list ([Value.int a 0,Value.int b 0].set 1 (.int (g:Int) 0)))) src=some (.list [.int a 0,.int (g:Int) 0]):=aj ..
  refine⟨aL (af hx2),aP (i:=1) (.inl (af hx2)) rfl rfl (by decide) ?_⟩
  nofun
  refine⟨aL (af hx2),aP (i:=1) (.inl (af hx2)) rfl rfl (by decide) ?_⟩
  refine kT ?_ (.of_right (rF (by omega) (by omega)))
  nofun
  refine hE ?_
  nofun
  refine m0 ?_ (by decide)
  nofun
  refine yk ?_ (by decide) (nN (by omega) (by omega))
  nofun
  refine hE ?_
  nofun
  refine m0 ?_ (lV (by lia))
  refine be (jo (a:=(((g:Int) * (g:Int)).fmod 2147483629).fdiv 32) (b:=top) (by lia)) fun g2 e3 e4=>?_
  rw[e3]
  exact h g2 _ e4 (.upd List.mem_cons_self hx (fun r q=>by cases q)) ⟨a,g,hx2,by lia,e2⟩
theorem rG(KT:HK c){src na:Addr}{vs:List Value}{o:cq}(h1:jn V src)(h2:V na=some o)(h2':o.bare= .list vs)(hn:na∉ [src])(hl:1<=vs.length)(fZ:vs.length<=1000)(h:∀(i:Nat) x V',vs[i]? =some x->Le [src] V V'->jn V' src->Q x V'):ab c 2 (.ref 789) [.ref src,.ref na] V Q:=by
 refine eC (x0:="source") (x1:="things") KT ?_
 intro env K
 try dsimp only at K
 have hr:rd V na=some (.list vs):=by rw[af h2,h2']
 nofun
 refine cg (.inl hr) (by lia) ?_
 nofun
 refine ab.at (gP KT h1 (by lia) (by lia) fun g V1 hg L1 hs1=>?_) (by lia)
 nofun
 have hr1:rd V1 na=some (.list vs):=by rw[af (L1.at h2 hn),h2']
 obtain⟨x,hx⟩:∃x,vs[g]? =some x:=⟨_,List.getElem?_eq_getElem (by lia)⟩
 refine⟨aL hr1,aP (i:=g) (.inl hr1) rfl hx (by lia) ?_⟩
 nofun
 exact h g x _ hx L1 hs1
theorem xI(KT:HK c){sa:Addr}{is:List Int}{o:cq}(h1:V sa=some o)(h1':rd V sa=some (.rlist (is.map fun i=> .int i 0))∨rd V sa=some (.list (is.map fun i=> .int i 0)))(hl:is.length<=1000)(h:∀a V',V a=none->Le [] V V'->jn V' a->Q (.ref a) V'):ab c 1 (.ref 775) [.ref sa,.int 0 0] V Q:=by
 refine eC (x0:="script") (x1:="k") KT ?_
 intro env K
 try dsimp only at K
 let F:I2:=fun l1 V1 G=>V=V1->Lk l1 "script" (.ref sa)->Lk l1 "k" (.int 0 0)->∀i,Lk l1 "cell" (.int i 0)->G
 refine aC F ?_ ?_
 ·intro _ _
  nofun
  exact(fun _ k=>k rfl (by rfl') (by rfl') _ (by rfl'))
 rintro l1 V1 rfl b1 b2 i0 b3
 let F:I2:=fun l1 V2 G=>V=V2->Lk l1 "script" (.ref sa)->Lk l1 "k" (.int 0 0)->∀i,Lk l1 "cell" (.int i 0)->G
 refine aC F ?_ ?_
 ·intro _ _
  nofun
  refine cg (h1'.elim .inr .inl) (by rw[List.length_map];lia) ?_
  refine m7 ?_
  nofun
  rw[List.length_map]
  induction is using bD with
  |nil=>
   refine bz Bool.false_ne_true ?_
   nofun
   exact(fun _ k=>k rfl b1 b2 i0 b3)
  |cons i r=>
   refine bu (by simp) ?_
   nofun
   refine⟨?_,aP (i:=0) (h1'.elim (fun h=> .inr (.inl h)) .inl) rfl rfl (by decide) ?_⟩
   ·rcases h1' with h|h
    ·exact sK h
    ·exact aL h
   nofun
   exact(fun _ k=>k rfl (by rfl') (by rfl') i (by rfl'))
 rintro l2 V2 rfl b1 b2 i b3
 nofun
 refine hE ?_
 nofun
 refine uS ?_
 nofun
 refine gY ?_
 nofun
 refine hE ?_
 nofun
 refine BC ?_
 nofun
 refine hE ?_
 nofun
 refine m0 ?_ (by decide)
 nofun
 refine kT ?_ (.of_right (by decide+kernel))
 nofun
 refine kT ?_ (.of_right (by decide+kernel))
 refine jY ?_
 nofun
 refine kT ?_ (.of_right (by decide+kernel))
 refine jY ?_
 nofun
 refine jY ?_
 nofun
 refine kT ?_ (.of_right (by decide+kernel))
 nofun
 refine hE ?_
 nofun
 refine m0 ?_ (by decide)
 nofun
 generalize hb:(if -1 -i>i then -1 -i else i)=big
 refine be (jo (a:=(big.fmod 2147483629+7919*0*0+31*0+17) *48271) (b:=2147483647) (by lia)) fun g e1 e2=>?_
 rw[e1]
 refine Bx ?_ (by decide) (by decide) (by decide) (by decide) (by decide+kernel)
 refine t8 ?_
 nofun
 refine uh ?_
 refine kT ?_ (.of_right (by split<;>decide+kernel))
 nofun
 exact⟨bW rfl,fun a ha=>h a _ ha (.new ha) ⟨_,g,aj ..,by lia,e2⟩⟩
end
noncomputable def kr:Nat->Nat
 |0=>0
 |d+1=>3*kr d+2
def vu(V:St)(na:Addr)(xs:List Str):Prop:=∃o,V na=some o/\o.bare= .list (xs.map aJ)
theorem vu.keepM{V V':St}{na:Addr}{xs:List Str}{M:List Addr}(h:vu V na xs)(L:Le M V V')(hm:na∉M):vu V' na xs:=by obtain⟨o,h1,h2⟩:=h;exact⟨o,L.at h1 hm,h2⟩
theorem vu.keep{V V':St}{na:Addr}{xs:List Str}(h:vu V na xs)(L:Le [] V V'):vu V' na xs:=h.keepM L nn
theorem vu.rd{V:St}{na:Addr}{xs:List Str}(h:vu V na xs):rd V na=some (.list (xs.map aJ)):=by obtain⟨o,h1,h2⟩:=h;rw[af h1,h2]
theorem gg{V:St}{src box a:Addr}{m:Nat}(h1:jn V src)(h2:fc V box m)(ha:V a=none):a∉ [src,box]:=by
 refine fM h1 fun _ _ h1 _=>?_
 refine dP h2 fun _ h2=>?_
 simp only[List.mem_cons,List.mem_nil_iff,or_false,not_or]
 exact⟨fun e=>by(rw[e,h1]at ha;cases ha),fun e=>by(rw[e,h2]at ha;cases ha)⟩
noncomputable def pA(m k:Nat):List Str:=(List.range k).map fun i=>bl "l" (m+i+1)
theorem mU(d:Nat):(((d+1:Nat):Int) -1)=(d:Int):=by lia
theorem Le.toS{src box:Addr}{V V':St}(L:Le [src] V V'):Le [src,box] V V':=L.mono fun a h=>by simp at h;simp[h]
theorem Le.toB{src box:Addr}{V V':St}(L:Le [box] V V'):Le [src,box] V V':=L.mono fun a h=>by simp at h;simp[h]
def sq(c:Cx)(d:Nat):Prop:=∀{V:St} {src box na:Addr} {m:Nat} {xs:List Str} {Q:Value->St->Prop},jn V src->fc V box m->src≠box->vu V na xs->na∉ [src,box]->1<=xs.length->xs.length+2*d<=50->
 (∀x∈xs,(bb.lookup x).isSome=true)->m+kr d<=10->
 (∀t v m' V',Le [src,box] V V'->jn V' src->fc V' box m'->m<=m'->m'<=m+kr d->Rp (2*d+2) V' v t->Gd (2*d+2) m t->bh t≠183->Q v V')->ab c (10*d+10) (.ref 812) [.ref src,.ref box,.ref na,.int d 0] V Q
theorem Gd.mkV{n m:Nat}{x:Str}(h:(bb.lookup x).isSome=true):Gd (n+1) m (.var x):=h
theorem Gd.mkL{n m:Nat}{i:Int}(h:i=0∨i=1):Gd (n+1) m (.lit i):=h
theorem Gd.mkE{n m:Nat}:Gd (n+1+1) m (.prim "error" [.lit 0]):=⟨.inl rfl,by decide,fun a ha=>by simp at ha;subst ha;exact .inl rfl⟩
theorem Gd.mkP{n m:Nat}{as:List ai}(h:∀a∈as,Gd n m a)(hl:as.length=2):Gd (n+1) m (.prim "intAdd" as):=⟨.inr rfl,by lia,h⟩
theorem Gd.mkC{n m:Nat}{a:ai}(h:Gd n m a):Gd (n+1) m (.con "C" [a]):=⟨rfl,by simp,fun b hb=>by simp at hb;subst hb;exact h⟩
theorem Gd.mkT{n m:Nat}{x:Str}{as:List ai}(hx:x∈cf)(h1:1<=as.length)(h3:as.length<=3)(h:∀a∈as,Gd n m a):Gd (n+1) m (.app (.var x) as):=⟨h1,h3,h,hx⟩
theorem Gd.mkA{n m i:Nat}{x:Str}{a b:ai}(hx:bb.lookup x=some i)(hi:m<i)(hb:Gd n i b)(ha:Gd (n+1) m a):Gd (n+1+1) m (.app (.lam [x] b) [a]):=
 ⟨by simp,by simp,fun t ht=>by simp at ht;subst ht;exact ha,rfl,x,i,rfl,hx,hi,hb⟩
theorem Gd.mkK{n m i:Nat}{x:Str}{e a:ai}{o:Option ai}(he:Gd n m e)(hx:bb.lookup x=some i)(hi:m<i)(ha:Gd n i a)(ho:∀t,o=some t->Gd n i t):Gd (n+1) m (.case e x [(1,a)] o):=
 ⟨rfl,he,i,hx,hi,fun p hp=>by simp at hp;subst hp;exact⟨rfl,ha⟩,ho⟩
theorem Gd.mkB{n m i:Nat}{bs:List (Str×ai)}{b:ai}{r:Bool}(h1:1<=bs.length)(h2:bs.length<=2)(hn:lC bs=true)(hd:(bs.map (·.1)).Nodup)(hm:m<=i)(h:∀p∈bs,(∃j,bb.lookup p.1=some j/\m<j/\j<=i)/\Gd n i p.2)(hb:Gd n i b):Gd (n+1) m (.letn bs b r):=
 ⟨h1,h2,hn,hd,i,hm,h,hb⟩
theorem Rp.mkV{n:Nat}{V:St}{v:Value}{x:Str}(h:IA V v 59 [("name",.str x 0)]):Rp (n+1) V v (.var x):=h
theorem Rp.mkL{n:Nat}{V:St}{v:Value}{i:Int}(h:IA V v 101 [("kind",.str "int" 0),("value",.int i 0)]):Rp (n+1) V v (.lit i):=h
theorem ii{xs:List Str}{i:Nat}{v:Value}(h:(xs.map aJ)[i]? =some v):∃y,xs[i]? =some y/\v=aJ y:=by
 rw[List.getElem?_map]at h
 induction e:xs[i]? with
 |none=>rw[e]at h;cases h
 |some z=>rw[e]at h;exact⟨z,rfl,(Option.some.inj h).symm⟩
theorem gh(xs:List Str)(x:Str):xs.map aJ++ [.str x 0]=(xs++ [x]).map aJ:=by rw[List.map_append];rfl
theorem sr{xs:List Str}{x:Str}(h:∀y∈xs,(bb.lookup y).isSome=true){i:Nat}(hx:bb.lookup x=some i):∀y∈xs++ [x],(bb.lookup y).isSome=true:=fun y hy=>by
 rcases List.mem_append.mp hy with q|q
 ·exact h y q
 ·simp at q;subst q;rw[hx];rfl
section
variable{c:Cx}{d n:Nat}{env:Env}{l:au}{V:St}{p pos:Pos}{Q:Value->St->Prop}{QB:Bool->St->Prop}{QF:Fl->au->St->Prop}{QL:au->St->Prop}{ns:List (Str×NameKind)}
set_option maxHeartbeats 8000000 in
theorem nO(KT:HK c){D:Nat}(ih0:∀e,D=e+1->sq c e):sq c D:=by
 intro V src box na m xs Q h1 h2 hsb h3 hna hx1 hx2 hok hm h
 refine BU (x0:="source") (x1:="box") (x2:="names") (x3:="deep") KT ?_
 intro env K
 try dsimp only at K
 have hbs:box∉ [src]:=by simp;exact fun q=>hsb q.symm
 have hsb2:src∉ [box]:=by simp;exact hsb
 have hns:na∉ [src]:=fun q=>hna (by simp at q;simp[q])
 have hnb:na∉ [box]:=fun q=>hna (by simp at q;simp[q])
 let F:I2:=fun l1 V1 G=>Le [src] V V1->Lk l1 "source" (.ref src)->Lk l1 "box" (.ref box)->Lk l1 "names" (.ref na)->Lk l1 "deep" (.int (D:Int) 0)->jn V1 src->∀g:Nat,Lk l1 "way" (.int (g:Int) 0)->g<13->(D=0->g<3)->G
 refine aC F ?_ ?_
 ·intro _ _
  nofun
  refine pO ?_
  nofun
  by_cases hD:D=0
  ·refine bz (fun q=>absurd (of_decide_eq_true q) (by lia)) ?_
   nofun
   refine ab.at (gP KT h1 (by decide) (by decide) fun g V1 hg L1 s1=>?_) (by lia)
   nofun
   exact(fun _ κ=>κ L1 (by rfl') (by rfl') (by rfl') (by rfl') s1 g (by rfl') (by lia) (fun _=>by lia))
  ·refine bu (decide_eq_true (by lia)) ?_
   nofun
   refine ab.at (gP KT h1 (by decide) (by decide) fun g V1 hg L1 s1=>?_) (by lia)
   nofun
   exact(fun _ κ=>κ L1 (by rfl') (by rfl') (by rfl') (by rfl') s1 g (by rfl') (by lia) (fun q=>absurd q hD))
 rintro l1 V1 L1 e1 e2 e3 e4 s1 g e5 hg13 hg0
 have b1:fc V1 box m:=h2.keepM L1 hbs
 have n1:vu V1 na xs:=h3.keepM L1 hns
 replace h:∀t v m' V',Le [src,box] V1 V'->jn V' src->fc V' box m'->m<=m'->m'<=m+kr D->Rp (2*D+2) V' v t->Gd (2*D+2) m t->bh t≠183->Q v V':=fun t v m' V' L=>h t v m' V' (L1.toS.trans L)
 clear h1 h2 h3 L1
 nofun
 refine m7 ?_
 nofun
 by_cases g2:g<2
 ·refine bu (decide_eq_true (by lia)) ?_
  nofun
  refine be n1 fun o q1 q2=>?_
  refine ab.at (rG KT s1 q1 q2 hns (by rw[List.length_map];exact hx1) (by rw[List.length_map];exact bK hx2) fun i x V2 hx L2 s2=>?_) (by lia)
  refine be (ii hx) fun y hy z2=>?_;subst z2
  nofun
  refine ab.at (iJ (d:=0) KT fun w V3 L3 hw=>?_) (by lia)
  nofun
  exact h (.var y) w m V3 (L2.toS.trans L3.nil) (s2.keep L3) ((b1.keepM L2 hbs).keep L3) (Nat.le_refl _) (Nat.le_add_right _ _) (Rp.mkV hw) (Gd.mkV (hok y (List.mem_of_getElem? hy))) (show(59:Nat)≠183 by decide)
 refine bz (fun q=>absurd (of_decide_eq_true q) (by lia)) ?_
 nofun
 refine i9 ?_
 nofun
 by_cases g3:g=2
 ·refine bu (beq_iff_eq.mpr (by lia)) ?_
  nofun
  refine ab.at (gP KT s1 (by decide) (by decide) fun g' V2 hg' L2 s2=>?_) (by lia)
  nofun
  refine pO ?_
  nofun
  have b2:=b1.keepM L2 hbs
  by_cases g4:g'>0
  ·refine bu (decide_eq_true (by lia)) ?_
   nofun
   refine ab.at (q9 (d:=0) KT fun w V3 L3 hw=>?_) (by lia)
   nofun
   exact h (.lit 1) w m V3 (L2.toS.trans L3.nil) (s2.keep L3) (b2.keep L3) (Nat.le_refl _) (Nat.le_add_right _ _) (Rp.mkL hw) (Gd.mkL (.inr rfl)) (show(101:Nat)≠183 by decide)
  ·refine bz (fun q=>absurd (of_decide_eq_true q) (by lia)) ?_
   ac_rfl
   refine ab.at (q9 (d:=0) KT fun w V3 L3 hw=>?_) (by lia)
   ac_rfl
   refine⟨bW rfl,fun la V4 L4 hla h4=>?_⟩
   ac_rfl
   refine ab.at (jH (d:=0) KT fun w' V5 L5 hw'=>?_) (by lia)
   ac_rfl
   have LL:=L3.trans (L4.trans L5)
   exact h (.prim "error" [.lit 0]) w' m V5 (L2.toS.trans LL.nil) (s2.keep LL) (b2.keep LL) (Nat.le_refl _) (Nat.le_add_right _ _) (show Rp (2*D+1+1) _ _ _ from⟨la,_,hw',L5.ro _ _ h4,.cons (Rp.mkL ((hw.mono L4.ro).mono L5.ro)) .nil⟩) Gd.mkE (show(362:Nat)≠183 by decide)
 refine bz (fun q=>absurd (beq_iff_eq.mp q) (by lia)) ?_
 obtain⟨e,rfl⟩:∃e,D=e+1:=Nat.exists_eq_succ_of_ne_zero fun q=>(Nat.lt_or_eq_of_le (Nat.le_of_lt_succ (hg0 q))).elim g2 g3
 have ih:sq c e:=ih0 e rfl
 have hbx:kr (e+1)=3*kr e+2:=rfl
 rw[hbx]at hm h
 have hfu:2* (e+1)+2=2*e+2+1+1:=by lia
 rw[hfu]at h
 clear ih0 hbx
 nofun
 refine i9 ?_
 nofun
 by_cases g4:g=3
 ·refine bu (beq_iff_eq.mpr (by lia)) ?_
  ac_rfl
  refine gY ?_
  rw[mU]
  ac_rfl
  refine ab.at (ih s1 b1 hsb n1 hna hx1 (by exact bK hx2) hok (by exact bK hm) fun t v m2 V2 L2 s2 b2 hm1 hm2 hr hgd hcl=>?_) (by lia)
  ac_rfl
  refine⟨bW rfl,fun la V3 L3 hla h3=>?_⟩
  ac_rfl
  refine ab.at (oW (d:=0) KT fun w V4 L4 hw=>?_) (by lia)
  ac_rfl
  have LL:=L3.trans L4
  exact h (.con "C" [t]) w m2 V4 (L2.trans LL.nil) (s2.keep LL) (b2.keep LL) hm1 (by exact bK hm2) ⟨la,[v],hw,L4.ro _ _ h3,.cons ((hr.mono LL.ro).up (by lia)) .nil⟩ (Gd.mkC (hgd.up (by lia))) (show(322:Nat)≠183 by decide)
 refine bz (fun q=>absurd (beq_iff_eq.mp q) (by lia)) ?_
 nofun
 refine i9 ?_
 nofun
 by_cases g5:g=4
 ·refine bu (beq_iff_eq.mpr (by lia)) ?_
  ac_rfl
  refine eH fun ra hra=>?_
  have LR:Le [] V1 (V1.set ra (.range 2)):= .new hra
  refine⟨_,dh (n:=2) (af (aj ..)) (by decide),fun cenv CK=>?_⟩
  have hran:=gg s1 b1 hra
  let F:I4:=fun i acc l' V' G=>Le [src,box] V1 V'->Lk l' "source" (.ref src)->Lk l' "box" (.ref box)->Lk l' "names" (.ref na)->Lk l' "deep" (.int ((e+1:Nat):Int) 0)->jn V' src->V' ra=some (.range (2:Nat))->∀m2 rs ts,acc= .l rs->fc V' box m2->m<=m2->m2<=m+i*kr e->PySem.Paired (Rp (2*e+2) V') rs ts->ts.length=i->(∀t∈ts,Gd (2*e+2) m t)->G
  refine aq ((List.range 2).map fun(j:Nat)=>Value.int (j:Int) 0) F ?_ ?_ ?_ ((List.range 2).map fun(j:Nat)=>Value.int (j:Int) 0).length 0 (Nat.zero_add _)
   (by exact fun _ k=>k LR.nil (by rfl') (by rfl') (by rfl') (by rfl') (s1.keep LR) (aj ..) m ([]) ([]) rfl (b1.keep LR) (Nat.le_refl _) (by lia) .nil rfl (by simp))
  ·rintro i acc l' V' _ _ _ _ _ _ hra' - - - - - - - - - -
   exact dH 2 i
  ·rintro i z acc l' V' hz R hR L y1 y2 y3 y4 s2 hra' m2 rs ts rfl b2 hm1 hm2 hr hlen hgd
   have hi:i<2:=by
    have:=(List.getElem?_eq_some_iff.mp hz).1
    simpa using this
   have hib:(i+1) *kr e<=2*kr e:=Nat.mul_le_mul_right _ (by exact hi)
   rw[Nat.add_mul,Nat.one_mul]at hib
   ac_rfl
   refine gY ?_
   rw[mU]
   ac_rfl
   refine ab.at (ih s2 b2 hsb (n1.keepM L hna) hna hx1 (by exact bK hx2) hok (by exact gi hm hm2 hib) fun t v m3 V3 L3 s3 b3 hm3 hm4 hr3 hgd3 hcl=>?_) (by lia)
   ac_rfl
   refine⟨by rw[hr.length,sizeLine_eq];exact bC (Nat.le_of_eq hlen) hi,(hR _ _ _ _ fun _ k=>k (L.trans L3) (by rfl') (by rfl') (by rfl') (by rfl') s3 (L3.at hra' hran) m3 (rs++ [v]) (ts++ [t]) rfl b3 (by lia) (by rw[Nat.add_mul];exact bC hm4 hm2) (Paired.snoc' (Paired.imp (fun _ _ q=>q.mono L3.ro) hr) hr3) (by simp[hlen]) ?_)⟩
   intro a ha
   rcases List.mem_append.mp ha with q|q
   ·exact hgd a q
   ·simp at q;subst q;exact hgd3.lo hm1
  ·rintro acc l' V' L _ _ _ _ s2 hra' m2 rs ts rfl b2 hm1 hm2 hr hlen hgd
   rw[List.length_map,List.length_range]at hm2 hlen
   refine⟨rs,rfl,fun la V3 L3 hla h3=>?_⟩
   ac_rfl
   refine ab.at (jH (d:=0) KT fun w V4 L4 hw=>?_) (by lia)
   ac_rfl
   have LL:=L3.trans L4
   have hlen2:ts.length=2:=hlen
   exact h (.prim "intAdd" ts) w m2 V4 (L.trans LL.nil) (s2.keep LL) (b2.keep LL) hm1 (by have:m2<=m+2*kr e:=hm2;exact bK hm2) ⟨la,rs,hw,L4.ro _ _ h3,Paired.imp (fun _ _ q=>(q.mono LL.ro).up (by lia)) hr⟩ (Gd.mkP (fun a ha=>(hgd a ha).up (by lia)) hlen2) (show(362:Nat)≠183 by decide)
 refine bz (fun q=>absurd (beq_iff_eq.mp q) (by lia)) ?_
 nofun
 refine i9 ?_
 nofun
 by_cases g6:g=5
 ·refine bu (beq_iff_eq.mpr (by lia)) ?_
  let F:I2:=fun l2 V2 G=>Le [src,box] V1 V2->Lk l2 "source" (.ref src)->Lk l2 "box" (.ref box)->Lk l2 "names" (.ref na)->Lk l2 "deep" (.int ((e+1:Nat):Int) 0)->jn V2 src->∀t v m2,Lk l2 "value" v->Lk l2 "name" (.str (bl "c" (m2+1)) 0)->fc V2 box (m2+1)->m<=m2->m2<=m+kr e->Rp (2*e+2) V2 v t->Gd (2*e+2) m t->G
  refine aC F ?_ ?_
  ·intro _ _
   ac_rfl
   refine gY ?_
   rw[mU]
   ac_rfl
   refine ab.at (ih s1 b1 hsb n1 hna hx1 (by exact bK hx2) hok (by exact bK hm) fun t v m2 V2 L2 s2 b2 hm1 hm2 hr hgd hcl=>?_) (by lia)
   ac_rfl
   refine ab.at (ph KT (by exact bC hm2 hm) (by decide) b2 fun V3 L3 b3=>?_) (by lia)
   ac_rfl
   exact(fun _ k=>k (L2.trans L3.toB) (by rfl') (by rfl') (by rfl') (by rfl') (s2.keepM L3 hsb2) t v m2 (by rfl') (by rfl') b3 hm1 hm2 (hr.mono L3.ro) hgd)
  rintro l2 V2 L2 f1 f2 f3 f4 s2 t v m2 f5 f6 b2 hm1 hm2 hr hgd
  have n2:=n1.keepM L2 hna
  have hlk:bb.lookup (bl "c" (m2+1))=some (m2+1):=CU m2 (by exact bC hm2 hm)
  have hoks:=sr hok hlk
  let F:I2:=fun l3 V3 G=>Le [src,box] V2 V3->Lk l3 "source" (.ref src)->Lk l3 "box" (.ref box)->Lk l3 "names" (.ref na)->Lk l3 "deep" (.int ((e+1:Nat):Int) 0)->jn V3 src->Lk l3 "value" v->Lk l3 "name" (.str (bl "c" (m2+1)) 0)->∀a av m3,Lk l3 "alt" av->fc V3 box m3->m2+1<=m3->m3<=m2+1+kr e->ru (2*e+2) V3 av (1,a)->Gd (2*e+2) (m2+1) a->G
  refine aC F ?_ ?_
  ·intro _ _
   ac_rfl
   refine⟨bW rfl,fun ka V3 L3 hka h3=>?_⟩
   ac_rfl
   refine⟨bW rfl,fun ea V4 L4 hea h4=>?_⟩
   ac_rfl
   refine⟨bW rfl,fun la V5 L5 hla h5=>?_⟩
   have L25:=L3.trans (L4.trans L5)
   refine dW ((n2.keep L25).rd) (af h5) (by simp;exact bK hx2) fun na' hna'=>?_
   have L6:Le [] V5 (V5.set na' (.list (xs.map aJ++ [.str (bl "c" (m2+1)) 0]))):= .new hna'
   ac_rfl
   refine gY ?_
   rw[mU]
   ac_rfl
   have s6:=(s2.keep L25)
   have b6:=(b2.keep L25)
   refine ab.at (ih (xs:=xs++ [bl "c" (m2+1)]) (s6.keep L6) (b6.keep L6) hsb ⟨_,aj ..,congrArg cq.list (gh ..)⟩ (gg s6 b6 hna') (by simp) (by simp;exact bK hx2) hoks (by exact bC hm hm2) fun ta va m3 V7 L7 s7 b7 hm3 hm4 hra hgda _=>?_) (by lia)
   ac_rfl
   refine ab.at (oV (d:=0) KT fun w V8 L8 hw=>?_) (by lia)
   ac_rfl
   have LA:Le [src,box] V2 V8:=(L25.trans L6).nil.trans (L7.trans L8.nil)
   have R38:Ro V3 V8:=fun a r q=>L8.ro _ _ (L7.ro _ _ (L6.ro _ _ (L5.ro _ _ (L4.ro _ _ q))))
   have R48:Ro V4 V8:=fun a r q=>L8.ro _ _ (L7.ro _ _ (L6.ro _ _ (L5.ro _ _ q)))
   exact(fun _ k=>k LA (by rfl') (by rfl') (by rfl') (by rfl') (s7.keep L8) (by rfl') (by rfl') ta w m3 (by rfl') (b7.keep L8) hm3 hm4 ⟨ka,ea,va,hw,R38 _ _ h3,R48 _ _ h4,hra.mono L8.ro⟩ hgda)
  rintro l3 V3 L3 k1 k2 k3 k4 s3 k5 k6 a av m3 k7 b3 hm3 hm4 hal hga
  have n3:=n2.keepM L3 hna
  let F:I2:=fun l4 V4 G=>Le [src,box] V3 V4->jn V4 src->Lk l4 "value" v->Lk l4 "name" (.str (bl "c" (m2+1)) 0)->Lk l4 "alt" av->∀o ov m4,Lk l4 "other" ov->fc V4 box m4->m3<=m4->m4<=m3+kr e->(match(o:Option ai)with|none=>ov= .none|some t=>Rp (2*e+2) V4 ov t)->(∀t,o=some t->Gd (2*e+2) (m2+1) t)->G
  refine aC F ?_ ?_
  ·intro _ _
   ac_rfl
   refine ab.at (gP KT s3 (by decide) (by decide) fun g' V4 hg' L4 s4=>?_) (by lia)
   have b4:=b3.keepM L4 hbs
   have n4:=n3.keepM L4 hns
   nofun
   refine pO ?_
   nofun
   by_cases g7:g'>0
   ·refine bu (decide_eq_true (by lia)) ?_
    ac_rfl
    refine⟨bW rfl,fun la V5 L5 hla h5=>?_⟩
    refine dW ((n4.keep L5).rd) (af h5) (by simp;exact bK hx2) fun na' hna'=>?_
    have L6:Le [] V5 (V5.set na' (.list (xs.map aJ++ [.str (bl "c" (m2+1)) 0]))):= .new hna'
    ac_rfl
    refine gY ?_
    rw[mU]
    ac_rfl
    have s5:=(s4.keep L5)
    have b5:=(b4.keep L5)
    refine ab.at (ih (xs:=xs++ [bl "c" (m2+1)]) (s5.keep L6) (b5.keep L6) hsb ⟨_,aj ..,congrArg cq.list (gh ..)⟩ (gg s5 b5 hna') (by simp) (by simp;exact bK hx2) hoks (by exact gi hm hm4 hm2) fun ta va m4 V7 L7 s7 b7 hm5 hm6 hra hgda _=>?_) (by lia)
    ac_rfl
    exact(fun _ k=>k (L4.toS.trans ((L5.trans L6).nil.trans L7)) s7 (by rfl') (by rfl') (by rfl') (some ta) va m4 (by rfl') b7 hm5 hm6 hra (fun t ht=>by cases ht;exact hgda.lo (by lia)))
   ·refine bz (fun q=>absurd (of_decide_eq_true q) (by lia)) ?_
    ac_rfl
    exact(fun _ k=>k L4.toS s4 (by rfl') (by rfl') (by rfl') none _ m3 (by rfl') b4 (Nat.le_refl _) (Nat.le_add_right _ _) rfl (fun t ht=>by cases ht))
  rintro l4 V4 L4 s4 j1 j2 j3 o ov m4 j4 b4 hm5 hm6 ho hgo
  ac_rfl
  refine⟨bW rfl,fun la V5 L5 hla h5=>?_⟩
  ac_rfl
  refine ab.at (hN (d:=0) KT fun w V6 L6 hw=>?_) (by lia)
  ac_rfl
  have L56:=L5.trans L6
  have L46:Le [src,box] V3 V6:=L4.trans L56.nil
  refine h (.case t (bl "c" (m2+1)) [(1,a)] o) w m4 V6 (L2.trans (L3.trans L46)) (s4.keep L56) (b4.keep L56) (by lia) (by lia) ⟨v,la,[av],ov,hw,((hr.mono L3.ro).mono L46.ro).up (by lia),L6.ro _ _ h5,.cons ((hal.mono L46.ro).up (by lia)) .nil,?_⟩ (Gd.mkK (hgd.up (by lia)) hlk (by lia) (hga.up (by lia)) fun t ht=>(hgo t ht).up (by lia)) (show(282:Nat)≠183 by decide)
  induction o with
  |none=>exact ho
  |some t=>exact(Rp.mono L56.ro (n:=2*e+2) ho).up (by lia)
 refine bz (fun q=>absurd (beq_iff_eq.mp q) (by lia)) ?_
 nofun
 refine m7 ?_
 nofun
 by_cases g7:g<9
 ·refine bu (decide_eq_true (by lia)) ?_
  have hfrok:∀k,k<=2->∀y∈pA m k,∃j,bb.lookup y=some j/\m<j/\j<=m+k:=by
   intro k hk y hy
   refine be (List.mem_map.mp hy) fun i hi z2=>?_;subst z2
   have:=List.mem_range.mp hi
   exact⟨m+i+1,CV (m+i) (by lia),by lia,by lia⟩
  have hfrlen:∀k,(pA m k).length=k:=fun k=>by unfold pA;rw[List.length_map,List.length_range]
  let F:I2:=fun l2 V2 G=>Le [src,box] V1 V2->Lk l2 "source" (.ref src)->Lk l2 "box" (.ref box)->Lk l2 "names" (.ref na)->Lk l2 "deep" (.int ((e+1:Nat):Int) 0)->jn V2 src->∀k fa,1<=k->k<=2->Lk l2 "fresh" (.ref fa)->V2 fa=some (.ro (.list ((pA m k).map aJ)))->fc V2 box (m+k)->G
  refine aC F ?_ ?_
  ·intro _ _
   ac_rfl
   refine ab.at (gP KT s1 (by decide) (by decide) fun g' V2 hg' L2 s2=>?_) (by lia)
   ac_rfl
   refine i9 ?_
   ac_rfl
   refine uh ?_
   ac_rfl
   refine jY ?_
   ac_rfl
   obtain⟨k,hk,hk1,hk2⟩:∃k:Nat,(1+if((g':Int)==0)=true then(1:Int)else 0)=(k:Int)/\1<=k/\k<=2:=by
    split
    ·exact⟨2,rfl,by decide,by decide⟩
    ·exact⟨1,rfl,by decide,by decide⟩
   rw[hk]
   have b2:=b1.keepM L2 hbs
   refine eH fun ra hra=>?_
   have LR:Le [] V2 (V2.set ra (.range (k:Int))):= .new hra
   have hran:=dg b2 hra
   refine⟨_,dh (n:=k) (af (aj ..)) (by lia),fun cenv CK=>?_⟩
   let F:I4:=fun i acc l' V' G=>Le [box] V2 V'->Lk l' "box" (.ref box)->V' ra=some (.range (k:Nat))->acc= .l ((pA m i).map aJ)->fc V' box (m+i)->G
   refine aq ((List.range k).map fun(j:Nat)=>Value.int (j:Int) 0) F ?_ ?_ ?_ ((List.range k).map fun(j:Nat)=>Value.int (j:Int) 0).length 0 (Nat.zero_add _) (by exact fun _ κ=>κ LR.nil (by rfl') (aj ..) rfl (b2.keep LR))
   ·rintro i acc l' V' - -hra' - -
    exact dH k i
   ·rintro i z acc l' V' hz R hR L y1 hra' rfl b3
    have hi:i<k:=by
     have:=(List.getElem?_eq_some_iff.mp hz).1
     simpa using this
    ac_rfl
    refine ab.at (ph KT (by exact gi hm hi hk2) (by decide) b3 fun V3 L3 b4=>?_) (by lia)
    ac_rfl
    refine⟨by rw[List.length_map,hfrlen,sizeLine_eq];exact bC hi hk2,(hR _ _ _ _ fun _ κ=>κ (L.trans L3) (by rfl') (L3.at hra' hran) (?_) b4)⟩
    unfold pA
    rw[List.range_succ,List.map_append,List.map_append];rfl
   ·rintro acc l' V' L -hra' rfl b3
    rw[List.length_map,List.length_range]at b3 ⊢
    refine⟨_,rfl,fun la V5 L5 hla h5=>?_⟩
    ac_rfl
    exact(fun _ κ=>κ (L2.toS.trans (L.toB.trans L5.nil)) (by rfl') (by rfl') (by rfl') (by rfl') ((s2.keepM L hsb2).keep L5) k la hk1 hk2 (by rfl') h5 (b3.keep L5))
  rintro l2 V2 L2 f1 f2 f3 f4 s2 k fa hk1 hk2 f5 h2 b2
  have n2:=n1.keepM L2 hna
  let F:I2:=fun l3 V3 G=>Le [src] V2 V3->Lk l3 "source" (.ref src)->Lk l3 "box" (.ref box)->Lk l3 "names" (.ref na)->Lk l3 "deep" (.int ((e+1:Nat):Int) 0)->Lk l3 "fresh" (.ref fa)->jn V3 src->∀r:Bool,Lk l3 "is_rec" (.bool r)->G
  refine aC F ?_ ?_
  ·intro _ _
   ac_rfl
   refine ab.at (gP KT s2 (by decide) (by decide) fun g' V3 hg' L3 s3=>?_) (by lia)
   ac_rfl
   refine i9 ?_
   ac_rfl
   exact(fun _ κ=>κ L3 (by rfl') (by rfl') (by rfl') (by rfl') (by rfl') s3 _ (by rfl'))
  rintro l3 V3 L3 f1 f2 f3 f4 f5 s3 r f6
  have b3:=b2.keepM L3 hbs
  have n3:=n2.keepM L3 hns
  have h3:=L3.ro _ _ h2
  have hokf:∀y∈xs++pA m k,(bb.lookup y).isSome=true:=fun y hy=>by
   rcases List.mem_append.mp hy with q|q
   ·exact hok y q
   ·refine be (hfrok k hk2 y q) fun j hj _=>?_
    rw[hj];rfl
  let F:I2:=fun l4 V4 G=>Le [] V3 V4->Lk l4 "source" (.ref src)->Lk l4 "box" (.ref box)->Lk l4 "names" (.ref na)->Lk l4 "deep" (.int ((e+1:Nat):Int) 0)->Lk l4 "fresh" (.ref fa)->Lk l4 "is_rec" (.bool r)->∀ar ys,Lk l4 "around" (.ref ar)->vu V4 ar ys->ar∉ [src,box]->1<=ys.length->ys.length<=xs.length+2->(∀y∈ys,(bb.lookup y).isSome=true)->G
  refine aC F ?_ ?_
  ·intro _ _
   ac_rfl
   induction r with
   |true=>
    ac_rfl
    refine dW n3.rd (af h3) (by simp[hfrlen];exact bC hx2 hk2) fun na' hna'=>?_
    have L6:Le [] V3 (V3.set na' (.list (xs.map aJ++(pA m k).map aJ))):= .new hna'
    ac_rfl
    exact(fun _ κ=>κ L6 (by rfl') (by rfl') (by rfl') (by rfl') (by rfl') (by rfl') na' (xs++pA m k) (by rfl') ⟨_,aj ..,congrArg cq.list (List.map_append ..).symm⟩ (gg s3 b3 hna') (by simp;exact bK hx1) (by simp[hfrlen];lia) hokf)
   |false=>
    ac_rfl
    exact(fun _ κ=>κ (.refl ..) (by rfl') (by rfl') (by rfl') (by rfl') (by rfl') (by rfl') na xs (by rfl') n3 hna hx1 (by lia) hok)
  rintro l4 V4 L4 f1 f2 f3 f4 f5 f6 ar ys f7 nr har hy1 hy2 hoky
  have s4:=s3.keep L4
  have b4:=b3.keep L4
  have n4:=n3.keep L4
  have h4:=L4.ro _ _ h3
  let F:I2:=fun l5 V5 G=>Le [src,box] V4 V5->Lk l5 "source" (.ref src)->Lk l5 "box" (.ref box)->Lk l5 "names" (.ref na)->Lk l5 "deep" (.int ((e+1:Nat):Int) 0)->Lk l5 "fresh" (.ref fa)->Lk l5 "is_rec" (.bool r)->jn V5 src->∀m2 ba rs bs,Lk l5 "binds" (.ref ba)->V5 ba=some (.ro (.list rs))->fc V5 box m2->m+k<=m2->m2<=m+k+k*kr e->PySem.Paired (gj (2*e+2) V5) rs bs->bs.map (·.1)=pA m k->(∀p∈bs,Gd (2*e+2) (m+k) p.2/\bh p.2≠183)->G
  refine aC F ?_ ?_
  ·intro _ _
   ac_rfl
   refine⟨_,ax (af h4),fun cenv CK=>?_⟩
   let F:I4:=fun i acc l' V' G=>Le [src,box] V4 V'->Lk l' "source" (.ref src)->Lk l' "box" (.ref box)->Lk l' "around" (.ref ar)->Lk l' "deep" (.int ((e+1:Nat):Int) 0)->jn V' src->∀m2 rs bs,acc= .l rs->fc V' box m2->m+k<=m2->m2<=m+k+i*kr e->PySem.Paired (gj (2*e+2) V') rs bs->bs.map (·.1)=(pA m k).take i->(∀p∈bs,Gd (2*e+2) (m+k) p.2/\bh p.2≠183)->G
   refine aq ((pA m k).map aJ) F ?_ ?_ ?_ ((pA m k).map aJ).length 0 (Nat.zero_add _) (by exact fun _ κ=>κ (.refl ..) (by rfl') (by rfl') (by rfl') (by rfl') s4 (m+k) [] [] rfl b4 (Nat.le_refl _) (by lia) .nil rfl (by simp))
   ·rintro i acc l' V' L - - - - - - - - - - - - - - -
    exact aE (af (L.ro _ _ h4)) i
   ·rintro i z acc l' V' hz R hR L y1 y2 y3 y4 s5 m2 rs bs rfl b5 hm1 hm2 hr hlen hgd
    have hi:i<k:=by
     have:=(List.getElem?_eq_some_iff.mp hz).1
     simpa [hfrlen]using this
    have hib:(i+1) *kr e<=2*kr e:=Nat.mul_le_mul_right _ (by exact bC hi hk2)
    rw[Nat.add_mul,Nat.one_mul]at hib
    refine be (ii hz) fun y hy z2=>?_;subst z2
    ac_rfl
    refine gY ?_
    rw[mU]
    ac_rfl
    refine ab.at (ih s5 b5 hsb (nr.keepM L har) har hy1 (by exact bC hx2 hy2) hoky (by exact kI hm hm2 hk2 hib) fun t v m3 V6 L6 s6 b6 hm3 hm4 hr3 hgd3 hcl=>?_) (by lia)
    ac_rfl
    refine⟨bW rfl,fun qa V7 L7 hqa h7=>?_⟩
    have hbl:bs.length<=2:=by
     have:=congrArg List.length hlen
     rw[List.length_map,List.length_take,hfrlen]at this
     lia
    refine⟨by rw[hr.length];exact sz (by lia),(hR _ _ _ _ fun _ κ=>κ (L.trans (L6.trans L7.nil)) (by rfl') (by rfl') (by rfl') (by rfl') (s6.keep L7) m3 (rs++ [.ref qa]) (bs++ [(y,t)]) rfl (b6.keep L7) (by lia) (by rw[Nat.add_mul];exact bC hm4 hm2) (Paired.snoc' (Paired.imp (fun _ _ q=>(q.mono L6.ro).mono L7.ro) hr) ⟨qa,v,rfl,h7,hr3.mono L7.ro⟩) (by rw[am hy,List.map_append,hlen];rfl) (?_))⟩
    intro a ha
    rcases List.mem_append.mp ha with q|q
    ·exact hgd a q
    ·simp at q;subst q;exact⟨hgd3.lo hm1,hcl⟩
   ·rintro acc l' V' L - - - -s5 m2 rs bs rfl b5 hm1 hm2 hr hlen hgd
    rw[List.length_map,hfrlen]at hm2 hlen
    rw[List.take_of_length_le (by rw[hfrlen];exact Nat.le_refl _)]at hlen
    refine⟨rs,rfl,fun la V7 L7 hla h7=>?_⟩
    ac_rfl
    exact(fun _ κ=>κ (L.trans L7.nil) (by rfl') (by rfl') (by rfl') (by rfl') (by rfl') (by rfl') (s5.keep L7) m2 la rs bs (by rfl') h7 (b5.keep L7) hm1 hm2 (Paired.imp (fun _ _ q=>q.mono L7.ro) hr) hlen hgd)
  rintro l5 V5 L5 f1 f2 f3 f4 f5 f6 s5 m2 ba rs bs f8 h5 b5 hm1 hm2 hr hlen hgd
  have n5:=n4.keepM L5 hna
  have h5f:=L5.ro _ _ h4
  have hkb:k*kr e<=2*kr e:=Nat.mul_le_mul_right _ hk2
  ac_rfl
  refine dW n5.rd (af h5f) (by simp[hfrlen];exact bC hx2 hk2) fun na' hna'=>?_
  have L6:Le [] V5 (V5.set na' (.list (xs.map aJ++(pA m k).map aJ))):= .new hna'
  ac_rfl
  refine gY ?_
  rw[mU]
  ac_rfl
  refine ab.at (ih (xs:=xs++pA m k) (s5.keep L6) (b5.keep L6) hsb ⟨_,aj ..,congrArg cq.list (List.map_append ..).symm⟩ (gg s5 b5 hna') (by simp;exact bK hx1) (by simp[hfrlen];exact bC hx2 hk2) hokf (by exact kI hm hm2 hk2 hkb) fun tb vb m3 V7 L7 s7 b7 hm3 hm4 hrb hgb _=>?_) (by lia)
  ac_rfl
  refine ab.at (rc (d:=0) KT fun w V8 L8 hw=>?_) (by lia)
  ac_rfl
  have L58:Le [src,box] V5 V8:=L6.nil.trans (L7.trans L8.nil)
  have hbl:bs.length=k:=by rw[←List.length_map (f:=fun p:Str×ai=>p.1),hlen,hfrlen]
  refine h (.letn bs tb r) w m3 V8 (L2.trans (L3.toS.trans (L4.nil.trans (L5.trans L58)))) (s7.keep L8) (b7.keep L8) (by exact bC hm1 hm3) (by exact kI hm4 hm2 hk2 hkb) ⟨ba,rs,vb,hw,L58.ro _ _ h5,Paired.imp (fun _ _ q=>(q.mono L58.ro).up (by lia)) hr,(hrb.mono L8.ro).up (by lia)⟩
   (Gd.mkB (i:=m+k) (by exact bC hk1 (Nat.le_of_eq hbl.symm)) (by lia) ?_ ?_ (by lia) ?_ ((hgb.lo (by lia)).up (by lia))) (show(221:Nat)≠183 by decide)
  ·unfold lC
   rw[List.all_eq_true]
   intro p hp
   have:=(hgd p hp).2
   simpa using this
  ·rw[hlen]
   have:k=1∨k=2:=by lia
   rcases this with rfl|rfl
   ·simp[pA]
   ·simp only[pA,List.range_succ,List.range_zero,List.nil_append,List.cons_append,List.map_cons,List.map_nil,List.nodup_cons,List.mem_cons,List.mem_nil_iff,or_false,not_false_eq_true,List.nodup_nil,and_true]
    intro q
    have:=ic q
    lia
  ·intro p hp
   have hp1:p.1∈pA m k:=by rw[←hlen];exact List.mem_map.mpr ⟨p,hp,rfl⟩
   exact⟨hfrok k hk2 _ hp1,(hgd p hp).1.up (by lia)⟩
 refine bz (fun q=>absurd (of_decide_eq_true q) (by lia)) ?_
 nofun
 refine i9 ?_
 nofun
 by_cases g8:g=9
 ·refine bu (beq_iff_eq.mpr (by lia)) ?_
  let F:I2:=fun l2 V2 G=>Le [src,box] V1 V2->Lk l2 "source" (.ref src)->Lk l2 "box" (.ref box)->Lk l2 "names" (.ref na)->Lk l2 "deep" (.int ((e+1:Nat):Int) 0)->jn V2 src->Lk l2 "param" (.str (bl "p" (m+1)) 0)->fc V2 box (m+1)->G
  refine aC F ?_ ?_
  ·intro _ _
   ac_rfl
   refine ab.at (ph KT (by exact bK hm) (by decide) b1 fun V3 L3 b3=>?_) (by lia)
   ac_rfl
   exact(fun _ k=>k L3.toB (by rfl') (by rfl') (by rfl') (by rfl') (s1.keepM L3 hsb2) (by rfl') b3)
  rintro l2 V2 L2 f1 f2 f3 f4 s2 f5 b2
  have n2:=n1.keepM L2 hna
  have hlk:bb.lookup (bl "p" (m+1))=some (m+1):=CW m (by exact bK hm)
  have hoks:=sr hok hlk
  ac_rfl
  refine⟨bW rfl,fun pa V3 L3 hpa h3=>?_⟩
  ac_rfl
  refine⟨bW rfl,fun la V5 L5 hla h5=>?_⟩
  have L25:=L3.trans L5
  refine dW ((n2.keep L25).rd) (af h5) (by simp;exact bK hx2) fun na' hna'=>?_
  have L6:Le [] V5 (V5.set na' (.list (xs.map aJ++ [.str (bl "p" (m+1)) 0]))):= .new hna'
  ac_rfl
  refine gY ?_
  rw[mU]
  ac_rfl
  have s6:=(s2.keep L25)
  have b6:=(b2.keep L25)
  refine ab.at (ih (xs:=xs++ [bl "p" (m+1)]) (s6.keep L6) (b6.keep L6) hsb ⟨_,aj ..,congrArg cq.list (gh ..)⟩ (gg s6 b6 hna') (by simp) (by simp;exact bK hx2) hoks (by exact bK hm) fun tb vb m3 V7 L7 s7 b7 hm3 hm4 hrb hgb _=>?_) (by lia)
  ac_rfl
  refine ab.at (iO (d:=0) KT fun wl V8 L8 hwl=>?_) (by lia)
  ac_rfl
  have L28:Le [src,box] V2 V8:=(L25.trans L6).nil.trans (L7.trans L8.nil)
  have R38:Ro V3 V8:=fun a r q=>L8.ro _ _ (L7.ro _ _ (L6.ro _ _ (L5.ro _ _ q)))
  refine gY ?_
  rw[mU]
  ac_rfl
  refine ab.at (ih (s7.keep L8) (b7.keep L8) hsb (n2.keepM L28 hna) hna hx1 (by exact bK hx2) hok (by exact bC hm hm4) fun ta va m4 V9 L9 s9 b9 hm5 hm6 hra hga _=>?_) (by lia)
  ac_rfl
  refine⟨bW rfl,fun aa V10 L10 haa h10=>?_⟩
  ac_rfl
  refine ab.at (lz (d:=0) KT fun w V11 L11 hw=>?_) (by lia)
  ac_rfl
  have LE:=L10.trans L11
  have R8:Ro V8 V11:=fun a r q=>LE.ro _ _ (L9.ro _ _ q)
  refine h (.app (.lam [bl "p" (m+1)] tb) [ta]) w m4 V11 (L2.trans (L28.trans (L9.trans LE.nil))) (s9.keep LE) (b9.keep LE) (by exact bC hm3 hm5) (by exact bC hm6 hm4) ⟨wl,aa,[va],hw,⟨pa,vb,hwl.mono R8,R8 _ _ (R38 _ _ h3),(hrb.mono L8.ro).mono R8⟩,L11.ro _ _ h10,.cons ((hra.mono LE.ro).up (by lia)) .nil⟩ (Gd.mkA hlk (by lia) hgb ((hga.lo (by lia)).up (by lia))) (show(141:Nat)≠183 by decide)
 rw[if_neg (fun q=>absurd (beq_iff_eq.mp q) (by lia))]
 refine dm ?_
 let F:I2:=fun l2 V2 G=>Le [src,box] V1 V2->Lk l2 "source" (.ref src)->Lk l2 "box" (.ref box)->Lk l2 "names" (.ref na)->Lk l2 "deep" (.int ((e+1:Nat):Int) 0)->jn V2 src->fc V2 box m->∀x:Str,Lk l2 "top" (.str x 0)->x∈cf->G
 refine aC F ?_ ?_
 ·intro _ _
  ac_rfl
  refine⟨bW rfl,fun la V2 L2 hla h2=>?_⟩
  ac_rfl
  refine ab.at (rG KT (s1.keep L2) h2 rfl (fun q=>gg s1 b1 hla (by simp at q;simp[q])) (by simp) (by simp) fun i x V3 hx L3 s3=>?_) (by lia)
  ac_rfl
  obtain⟨y,rfl,hy⟩:∃y:Str,x= .str y 0/\y∈cf:=by
   have:=List.mem_of_getElem? hx
   simp only[List.mem_cons,List.mem_nil_iff,or_false]at this
   rcases this with rfl|rfl|rfl|rfl|rfl|rfl<;>exact⟨_,rfl,by decide⟩
  exact(fun _ κ=>κ (L2.nil.trans L3.toS) (by rfl') (by rfl') (by rfl') (by rfl') s3 ((b1.keep L2).keepM L3 hbs) y (by rfl') hy)
 rintro l2 V2 L2 f1 f2 f3 f4 s2 b2 y f5 hy
 have n2:=n1.keepM L2 hna
 let F:I2:=fun l3 V3 G=>Le [src,box] V2 V3->Lk l3 "source" (.ref src)->Lk l3 "box" (.ref box)->Lk l3 "names" (.ref na)->Lk l3 "deep" (.int ((e+1:Nat):Int) 0)->jn V3 src->fc V3 box m->Lk l3 "top" (.str y 0)->∀k:Nat,Lk l3 "many" (.int (k:Int) 0)->1<=k->k<=3->G
 refine aC F ?_ ?_
 ·intro _ _
  ac_rfl
  refine⟨bW rfl,fun la V3 L3 hla h3=>?_⟩
  ac_rfl
  refine ab.at (rG KT (s2.keep L3) h3 rfl (fun q=>gg s2 b2 hla (by simp at q;simp[q])) (by simp) (by simp) fun i x V4 hx L4 s4=>?_) (by lia)
  ac_rfl
  obtain⟨k,rfl,hk1,hk3⟩:∃k:Nat,x= .int (k:Int) 0/\1<=k/\k<=3:=by
   have:=List.mem_of_getElem? hx
   simp only[List.mem_cons,List.mem_nil_iff,or_false]at this
   rcases this with rfl|rfl|rfl|rfl|rfl
   ·exact⟨2,rfl,by decide,by decide⟩
   ·exact⟨2,rfl,by decide,by decide⟩
   ·exact⟨2,rfl,by decide,by decide⟩
   ·exact⟨1,rfl,by decide,by decide⟩
   ·exact⟨3,rfl,by decide,by decide⟩
  exact(fun _ κ=>κ (L3.nil.trans L4.toS) (by rfl') (by rfl') (by rfl') (by rfl') s4 ((b2.keep L3).keepM L4 hbs) (by rfl') k (by rfl') hk1 hk3)
 rintro l3 V3 L3 k1 k2 k3 k4 s3 b3 k5 k k6 hk1 hk3
 have n3:=n2.keepM L3 hna
 ac_rfl
 refine ab.at (iJ (d:=0) KT fun wf V4 L4 hwf=>?_) (by lia)
 ac_rfl
 refine eH fun ra hra=>?_
 have LR:Le [] V4 (V4.set ra (.range (k:Int))):= .new hra
 refine⟨_,dh (n:=k) (af (aj ..)) (by lia),fun cenv CK=>?_⟩
 have hran:=gg (s3.keep L4) (b3.keep L4) hra
 let F:I4:=fun i acc l' V' G=>Le [src,box] V4 V'->Lk l' "source" (.ref src)->Lk l' "box" (.ref box)->Lk l' "names" (.ref na)->Lk l' "deep" (.int ((e+1:Nat):Int) 0)->jn V' src->V' ra=some (.range (k:Nat))->∀m2 rs ts,acc= .l rs->fc V' box m2->m<=m2->m2<=m+i*kr e->PySem.Paired (Rp (2*e+2) V') rs ts->ts.length=i->(∀t∈ts,Gd (2*e+2) m t)->G
 refine aq ((List.range k).map fun(j:Nat)=>Value.int (j:Int) 0) F ?_ ?_ ?_ ((List.range k).map fun(j:Nat)=>Value.int (j:Int) 0).length 0 (Nat.zero_add _)
  (by exact fun _ k=>k LR.nil (by rfl') (by rfl') (by rfl') (by rfl') ((s3.keep L4).keep LR) (aj ..) m ([]) ([]) rfl ((b3.keep L4).keep LR) (Nat.le_refl _) (by lia) .nil rfl (by simp))
 ·rintro i acc l' V' _ _ _ _ _ _ hra' - - - - - - - - - -
  exact dH k i
 ·rintro i z acc l' V' hz R hR L y1 y2 y3 y4 s2 hra' m2 rs ts rfl b2 hm1 hm2 hr hlen hgd
  have hi:i<k:=by
   have:=(List.getElem?_eq_some_iff.mp hz).1
   simpa using this
  have hib:(i+1) *kr e<=3*kr e:=Nat.mul_le_mul_right _ (by exact bC hi hk3)
  rw[Nat.add_mul,Nat.one_mul]at hib
  ac_rfl
  refine gY ?_
  rw[mU]
  ac_rfl
  refine ab.at (ih s2 b2 hsb ((n3.keep L4).keepM L hna) hna hx1 (by exact bK hx2) hok (by exact gi hm hm2 hib) fun t v m3 V3 L3 s3 b3 hm3 hm4 hr3 hgd3 hcl=>?_) (by lia)
  ac_rfl
  refine⟨by rw[hr.length,sizeLine_eq];exact gi (Nat.le_of_eq hlen) hi hk3,(hR _ _ _ _ fun _ k=>k (L.trans L3) (by rfl') (by rfl') (by rfl') (by rfl') s3 (L3.at hra' hran) m3 (rs++ [v]) (ts++ [t]) rfl b3 (by lia) (by rw[Nat.add_mul];exact bC hm4 hm2) (Paired.snoc' (Paired.imp (fun _ _ q=>q.mono L3.ro) hr) hr3) (by simp[hlen]) ?_)⟩
  intro a ha
  rcases List.mem_append.mp ha with q|q
  ·exact hgd a q
  ·simp at q;subst q;exact hgd3.lo hm1
 ·rintro acc l' V' L _ _ _ _ s2 hra' m2 rs ts rfl b2 hm1 hm2 hr hlen hgd
  rw[List.length_map,List.length_range]at hm2 hlen
  refine⟨rs,rfl,fun la V5 L5 hla h5=>?_⟩
  ac_rfl
  refine ab.at (lz (d:=0) KT fun w V6 L6 hw=>?_) (by lia)
  ac_rfl
  have LL:=L5.trans L6
  have hkk:k*kr e<=3*kr e:=Nat.mul_le_mul_right _ hk3
  exact h (.app (.var y) ts) w m2 V6 (L2.trans (L3.trans (L4.nil.trans (L.trans LL.nil)))) (s2.keep LL) (b2.keep LL) hm1 (by exact bC hm2 hkk) ⟨wf,la,rs,hw,(show Rp (2*e+2+1) _ _ _ from Rp.mkV (IA.mono hwf fun a r q=>LL.ro _ _ (L.ro _ _ q))),L6.ro _ _ h5,Paired.imp (fun _ _ q=>(q.mono LL.ro).up (by lia)) hr⟩
   (Gd.mkT hy (by exact bC hk1 (Nat.le_of_eq hlen.symm)) (by lia) (fun a ha=>(hgd a ha).up (by lia))) (show(141:Nat)≠183 by decide)
theorem su(KT:HK c):∀d,sq c d
 |0=>nO KT fun e q=>by lia
 |d+1=>nO KT fun e q=>by cases q;exact su KT d
end
noncomputable def AF:List Str:=["int","char","app","lam","let","letrec","case","of","is","else","con","prim","program"]
def tB(V:St):Prop:=V 659=some (.ro (.tup (AF.map aJ)))
theorem tB.mono{V V':St}(h:tB V)(L:Ro V V'):tB V':=L _ _ h
noncomputable def ij(c:Nat):Str:=⟨#[c]⟩
noncomputable def iS(c:Nat):Bool:= !Txt.contains "()| " (ij c)&&decide (32<c)&&(c != 127)
noncomputable def qw(c:Nat):Bool:=Txt.contains "0123456789" (ij c)
noncomputable def yC(x:Str):Bool:= !(x==("":Str))&& !AF.contains x&& !(Txt.slice x none (some 1)==("-":Str))&& !(x.cps.toList.all qw)&&x.cps.toList.all iS&&PyData.strOk x&&decide (x.length<=20)
noncomputable def tC:List Str:=bb.map (·.1)++cf++(["C","intAdd","error"]:List Str)
theorem xJ:∀x∈tC,yC x=true:=by decide+kernel
structure sw(x:Str):Prop where
 ne:(x==("":Str))=false
 kw:AF.contains x=false
 neg:(Txt.slice x none (some 1)==("-":Str))=false
 fig:x.cps.toList.all qw=false
 sign:x.cps.toList.all iS=true
 lay:PyData.strOk x=true
 len:x.length<=20
theorem lW{x:Str}(h:x∈tC):sw x:=by
 have:=xJ x h
 unfold yC at this
 simp only[Bool.and_eq_true,Bool.not_eq_true',decide_eq_true_eq]at this
 obtain⟨⟨⟨⟨⟨⟨h1,h2⟩,h3⟩,h4⟩,h5⟩,h7⟩,h6⟩:=this
 exact⟨h1,h2,h3,h4,h5,h7,h6⟩
theorem iw{V:St}:∀xs:List Str,kY V (xs.map aJ) (xs.map PyData.str)
 | []=> .nil
 |x::r=> .cons (.str x) (iw r)
theorem AH:PyData.canLayAll0 (AF.map .str)=true:=by decide+kernel
theorem iT:∀xs:List Str,PyData.depthAll (xs.map .str)=0
 | []=>rfl
 |a::r=>by rw[List.map_cons];simp only[PyData.depthAll,PyData.depth];rw[iT r];rfl
theorem qx(x:Str):∀xs:List Str,((xs.map PyData.str).any fun y=>PyData.eqv y (.str x))=xs.contains x
 | []=>rfl
 |a::r=>by
  rw[List.map_cons,List.any_cons,qx x r,List.contains_cons]
  have:PyData.eqv (.str a) (.str x)=(a==x):=rfl
  rw[this]
  have:(a==x)=(x==a):=by rw[Bool.eq_iff_iff,beq_iff_eq,beq_iff_eq];exact eq_comm
  rw[this]
theorem vw{V:St}(x:Str)(i:Nat):nx V (.str x) i=some (x.cps.toList.map fun c=>Value.str (ij c) 0)[i]? :=by
 show some (x.cps[i]?.map fun c=>Value.str ⟨#[c]⟩ 0)=_
 rw[List.getElem?_map];simp[ij]
theorem sx{x:Str}{i:Nat}{v:Value}(h:(x.cps.toList.map fun c=>Value.str (ij c) 0)[i]? =some v):∃k,x.cps.toList[i]? =some k/\v= .str (ij k) 0:=by
 rw[List.getElem?_map]at h
 induction e:x.cps.toList[i]? with
 |none=>rw[e]at h;cases h
 |some z=>rw[e]at h;exact⟨z,rfl,(Option.some.inj h).symm⟩
section
variable{c:Cx}{d n:Nat}{env:Env}{l:au}{V:St}{p pos:Pos}{Q:Value->St->Prop}{QB:Bool->St->Prop}{QF:Fl->au->St->Prop}{QL:au->St->Prop}{ns:List (Str×NameKind)}
theorem AI{a:Addr}{xs:List Str}{x:Str}(hr:rd V a=some (.tup (xs.map aJ)))(hl:PyData.canLayAll0 (xs.map .str)=true)(hx:PyData.strOk x=true)(hd:1<=d)(h:Q (.bool (xs.contains x)) V):J2 c d (compareOp .In) (.str x 0) (.ref a) V Q:=
 yl (.str x) (.inr (.tup hr (iw xs))) hx hl (by rw[iT];simp;exact bK hd) (by rw[qx];exact h)
theorem bo{a b:Str}{m k:Nat}(ha:a.length<=m)(hb:b.length<=k)(hmn:m+k<=16777216)(h:(a++b).length<=m+k->Q (.str (a++b) 0) V):J2 c d (binaryOp .Add) (.str a 0) (.str b 0) V Q:=
 jC (by exact gi ha hb hmn) (h (by rw[eS];exact bC ha hb))
theorem tD(KT:HK c){x:Str}(hx:sw x)(h:∀V',Le [] V V'->Q (.bool false) V'):ab c 2 (.ref 664) [.str x 0] V Q:=by
 refine cZ (x0:="text") KT ?_
 intro env K
 try dsimp only at K
 have hxl:=hx.len
 have hsl:x.cps.toList.length=x.length:=by rw[Array.length_toList];rfl
 ac_rfl
 rotate_left 2
 ac_rfl
 refine⟨rfl,rfl,sz (fQ hxl rfl),?_⟩
 ac_rfl
 refine iH ?_
 rw[hx.neg]
 ac_rfl
 refine t9 ?_
 rw[show(x !=("":Str))=true from by unfold bne;rw[hx.ne];rfl]
 ac_rfl
 refine⟨.str x,rfl,fun cenv CK=>?_⟩
 let F:I4:=fun i acc l' V' G=>Le [] V V'->acc= .l (((x.cps.toList.take i).map qw).map .bool)->G
 refine aq (x.cps.toList.map fun c=>Value.str (ij c) 0) F ?_ ?_ ?_ (x.cps.toList.map fun c=>Value.str (ij c) 0).length 0 (Nat.zero_add _) (by exact fun _ κ=>κ (.refl ..) rfl)
 ·rintro i acc l' V' _ _
  exact vw x i
 ·rintro i v acc l' V' hv R hR L rfl
  refine be (sx hv) fun k hk z2=>?_;subst z2
  ac_rfl
  refine By ?_
  refine⟨by rw[List.length_map,List.length_map,List.length_take];exact sz (jV (mu hsl (fQ hxl rfl))),(hR _ _ _ _ fun _ κ=>κ L (?_))⟩
  rw[am hk,List.map_append,List.map_append];rfl
 ·rintro acc l' V' L rfl
  rw[List.length_map,List.take_length]
  refine⟨_,rfl,fun la V3 L3 hla h3=>?_⟩
  ac_rfl
  refine ym (af h3) ?_
  ac_rfl
  have:(x.cps.toList.map qw).all id=x.cps.toList.all qw:=by rw[List.all_map];rfl
  rw[this,hx.fig]
  exact h _ (L.trans L3)
theorem xK(KT:HK c){x:Str}(hx:sw x)(hk:tB V)(h:∀V',Le [] V V'->Q (.bool true) V'):ab c 3 (.ref 669) [.str x 0] V Q:=by
 refine cZ (x0:="name") KT ?_
 intro env K
 try dsimp only at K
 have hxl:=hx.len
 have hsl:x.cps.toList.length=x.length:=by rw[Array.length_toList];rfl
 let F:I2:=fun l1 V1 G=>Le [] V V1->Lk l1 "name" (.str x 0)->G
 refine aC F ?_ ?_
 ·intro _ _
  ac_rfl
  refine iH ?_
  rw[hx.ne]
  ac_rfl
  refine AI (af hk) AH hx.lay (by lia) ?_
  rw[hx.kw]
  ac_rfl
  refine ab.at (tD KT hx fun V1 L1=>?_) (by lia)
  ac_rfl
  exact(fun _ k=>k L1 (by rfl'))
 rintro l1 V1 L1 b1
 ac_rfl
 refine⟨.str x,rfl,fun cenv CK=>?_⟩
 let F:I4:=fun i acc l' V' G=>Le [] V V'->acc= .l (((x.cps.toList.take i).map iS).map .bool)->G
 refine aq (x.cps.toList.map fun c=>Value.str (ij c) 0) F ?_ ?_ ?_ (x.cps.toList.map fun c=>Value.str (ij c) 0).length 0 (Nat.zero_add _) (by exact fun _ κ=>κ L1 rfl)
 ·rintro i acc l' V' _ _
  exact vw x i
 ·rintro i v acc l' V' hv R hR L rfl
  refine be (sx hv) fun k hk z2=>?_;subst z2
  have hso:iS k=true:=List.all_eq_true.mp hx.sign k (List.mem_of_getElem? hk)
  have hso2:=hso
  unfold iS at hso2
  rw[Bool.and_eq_true,Bool.and_eq_true]at hso2
  obtain⟨⟨p1,p2⟩,p3⟩:=hso2
  ac_rfl
  refine dP (on c.w.params) fun t0 hnb=>?_
  refine oR KT CK (by kernel_rfl) (by kernel_rfl) hnb ?_
  refine yT ?_
  rw[p1]
  ac_rfl
  refine wn ?_ rfl
  ac_rfl
  refine BD rfl ?_
  refine m7 ?_
  ac_rfl
  have hc0:(ij k).cps.getD 0 0=k:=rfl
  rw[hc0,if_pos (decide_eq_true (by have:=of_decide_eq_true p2;lia))]
  ac_rfl
  refine t7 ?_
  have p4:((k:Int)!= 127)=true:=by
   have:k≠127:=by simpa using p3
   simp;lia
  rw[p4]
  refine⟨by rw[List.length_map,List.length_map,List.length_take];exact sz (by lia),(hR _ _ _ _ fun _ κ=>κ L (?_))⟩
  rw[am hk,List.map_append,List.map_append,List.map_cons,hso];rfl
 ·rintro acc l' V' L rfl
  rw[List.length_map,List.take_length]
  refine⟨_,rfl,fun la V3 L3 hla h3=>?_⟩
  ac_rfl
  refine ym (af h3) ?_
  ac_rfl
  have:(x.cps.toList.map iS).all id=x.cps.toList.all iS:=by rw[List.all_map];rfl
  rw[this,hx.sign]
  exact h _ (L.trans L3)
theorem ix(KT:HK c){x:Str}(hx:sw x)(hk:tB V)(h:∀V',Le [] V V'->Q (.str x 0) V'):ab c 4 (.ref 676) [.str x 0] V Q:=by
 refine cZ (x0:="name") KT ?_
 intro env K
 try dsimp only at K
 ac_rfl
 refine ab.at (xK KT hx hk fun V1 L1=>?_) (by lia)
 ac_rfl
 exact h _ L1
end
noncomputable def vy(i:Int):Str:=(("int":Str)++(" ":Str))++((toString i:String):Str)
noncomputable def ik(ps:List Str):Str:=(("(":Str)++Txt.join " " ps)++(")":Str)
noncomputable def iU(k s:Str):Str:=(((("(":Str)++k)++(" ":Str))++s)++(")":Str)
noncomputable def lX(i:Int):Str:=(("is (":Str)++vy i)++(")":Str)
noncomputable def lY(e x ways:Str):Str:=(((((("case ":Str)++e)++(" ":Str))++x)++(" (":Str))++ways)++(")":Str)
noncomputable def sy(f:Str)(o:Option Str):Str:=match o with
 |none=>f
 |some s=>((f++(" (else ":Str))++s)++(")":Str)
noncomputable def lZ(s:Str):Str:=(("(":Str)++s)++(")":Str)
noncomputable def xL(r:Bool):Str:=if r=true then "letrec " else "let "
noncomputable def eT:Nat->ai->Str
 |0,_=>""
 |n+1,t=>match t with
  | .var x=>x
  | .lit i=>lZ (vy i)
  | .prim op as=>lZ (Txt.join " " ((("prim ":Str)++op)::as.map (eT n)))
  | .con x as=>lZ (Txt.join " " ((("con ":Str)++x)::as.map (eT n)))
  | .lam ps b=>lZ (((("lam ":Str)++ik ps)++(" ":Str))++eT n b)
  | .app f as=>lZ (Txt.join " " (("app":Str)::eT n f::as.map (eT n)))
  | .case e x alts o=>lZ (sy (lY (eT n e) x (Txt.join " " (alts.map fun p=>iU (lX p.1) (eT n p.2)))) (o.map (eT n)))
  | .letn bs b r=>lZ (((xL r++ik (bs.map fun p=>iU p.1 (eT n p.2)))++(" ":Str))++eT n b)
noncomputable def tb:Nat->Nat
 |0=>0
 |n+1=>5*tb n+400
theorem vz:∀n,n<=6->tb n<=2000000:=by decide
def iC:Nat->ai->Prop
 |0,_=>False
 |n+1,t=>match t with
  | .var x=>x∈tC
  | .lit i=>i=0∨i=1
  | .prim op as=>op∈tC/\as.length<=3/\∀a∈as,iC n a
  | .con x as=>x∈tC/\as.length<=3/\∀a∈as,iC n a
  | .lam ps b=>ps.length<=2/\(∀p∈ps,p∈tC)/\iC n b
  | .app f as=>as.length<=3/\iC n f/\∀a∈as,iC n a
  | .case e x alts o=>x∈tC/\alts.length<=1/\iC n e/\(∀p∈alts,(p.1=0∨p.1=1)/\iC n p.2)/\∀t,o=some t->iC n t
  | .letn bs b _=>bs.length<=2/\(∀p∈bs,p.1∈tC/\iC n p.2)/\iC n b
theorem Rp.lit_ia{n:Nat}{V:St}{v:Value}{i:Int}(h:Rp n V v (.lit i)):IA V v 101 [("kind",.str "int" 0),("value",.int i 0)]:=by cases n with|zero=>exact h.elim|succ m=>exact h
theorem yD{x:Str}(h:(bb.lookup x).isSome=true):x∈tC:=by
 refine dP (Option.isSome_iff_exists.mp h) fun i hi=>?_
 have:=mem_of_lookup hi
 exact List.mem_append_left _ (List.mem_append_left _ (List.mem_map.mpr ⟨(x,i),this,rfl⟩))
theorem AJ{x:Str}(h:x∈cf):x∈tC:=List.mem_append_left _ (List.mem_append_right _ h)
theorem pi{x:Str}{i:Nat}(h:bb.lookup x=some i):x∈tC:=yD (by rw[h];rfl)
theorem Gd.tx{n m:Nat}{t:ai}(h:Gd n m t):iC n t:=by
 induction n generalizing m t with
 |zero=>exact h.elim
 |succ n ih=>
  induction t using ai.cs with
  |var x=>exact yD h
  |lit i=>exact h
  |prim op as=>exact⟨by rcases h.1 with e|e<;>(rw[e];decide+kernel),by have:=h.2.1;lia,fun a ha=>ih (h.2.2 a ha)⟩
  |con x as=>exact⟨by rw[h.1];decide+kernel,by have:=h.2.1;lia,fun a ha=>ih (h.2.2 a ha)⟩
  |lam ps b=>
   refine sI h fun p i e1 e2 e3 e4=>?_
   subst e1
   exact⟨by simp,fun q hq=>by simp at hq;subst hq;exact pi e2,ih e4⟩
  |app f as=>
   refine ye h fun h1 h2 h3 h4=>?_
   induction n using dQ with
   |zero=>induction as using bD with
    |nil=>cases h1
    |cons a r=>exact(h3 a List.mem_cons_self).elim
   |succ k=>
    refine⟨by lia,?_,fun a ha=>ih (h3 a ha)⟩
    induction f using ai.cs<;>first|exact h4.elim|exact AJ h4|exact ih h4.2
  |case e x alts o=>
   refine nT h fun h1 h2 zr=>?_;refine yf zr fun i h3 h4 h5 h6=>?_
   exact⟨pi h3,by lia,ih h2,fun p hp=>⟨.inr (h5 p hp).1,ih (h5 p hp).2⟩,fun t ht=>ih (h6 t ht)⟩
  |letn bs b r=>
   refine tL h fun h1 h2 hl h3 zr=>?_;refine iz zr fun i h4 h5 h6=>?_
   exact⟨h2,fun p hp=>⟨(h5 p hp).1.elim fun j q=>pi q.1,ih (h5 p hp).2⟩,ih h6⟩
theorem vA{B:Nat}:∀{ys:List Str},(∀y∈ys,y.length<=B)->(ys.map (·.length)).sum<=ys.length*B
 | [],_=>Nat.zero_le _
 |y::r,h=>by
  have h1:=h y List.mem_cons_self
  have h2:=vA (ys:=r) fun z hz=>h z (List.mem_cons_of_mem _ hz)
  rw[List.map_cons,List.sum_cons,List.length_cons,Nat.add_mul];exact bC h1 h2
theorem vB:(" ":Str).length=1:=by decide+kernel
theorem sA{B k:Nat}{ys:List Str}(hl:ys.length<=k)(h:∀y∈ys,y.length<=B):(ys.map (·.length)).sum+ys.length* (" ":Str).length<=k* (B+1)/\(Txt.join " " ys).length<=k* (B+1):=by
 have h1:=vA h
 have h2:ys.length* (B+1)<=k* (B+1):=Nat.mul_le_mul_right _ hl
 rw[Nat.mul_add ys.length,Nat.mul_one]at h2
 rw[vB,Nat.mul_one]
 refine⟨by exact bC h1 h2,?_⟩
 show(PySem.Builtin.Str.glued " " ys).length<=_
 rw[StrLaws.glued_eq_join]
 induction ys using bD with
 |nil=>exact Nat.le_trans (Nat.le_of_eq (show _=0 from rfl)) (Nat.zero_le _)
 |cons a l=>
  rw[len_join_cons,vB,Nat.mul_one]
  rw[List.length_cons]at h1 h2
  exact bC h1 h2
theorem xM{i:Int}(h:i=0∨i=1):((toString i:String):Str).length<=1:=by rcases h with rfl|rfl<;>decide+kernel
section
variable{c:Cx}{d n:Nat}{env:Env}{l:au}{V:St}{p pos:Pos}{Q:Value->St->Prop}{QB:Bool->St->Prop}{QF:Fl->au->St->Prop}{QL:au->St->Prop}{ns:List (Str×NameKind)}
theorem kG{a:Addr}{ys:List Str}{B k:Nat}(hr:rd V a=some (.list (ys.map aJ)))(hl:ys.length<=k)(hB:∀y∈ys,y.length<=B)(hk:k* (B+1)<=16777216)(h:(Txt.join " " ys).length<=k* (B+1)->Q (.str (Txt.join " " ys) 0) V):
  Calls c d (.builtin "str.join") [.str " " 0,.ref a] V Q:=
 yZ hr (Nat.le_trans (sA hl hB).1 hk) (h (sA hl hB).2)
def ma(c:Cx)(n:Nat):Prop:=∀{V:St} {v:Value} {t:ai} {Q:Value->St->Prop},Rp n V v t->iC n t->tB V->
 (∀V',Le [] V V'->(eT n t).length<=tb n->Q (.str (eT n t) 0) V')->ab c (10*n+10) (.ref 724) [v] V Q
theorem vC(KT:HK c){a:Addr}{ps:List Str}(ha:V a=some (.ro (.list (ps.map aJ))))(hl:ps.length<=2)(hp:∀x∈ps,x∈tC)(hk:tB V)
  (h:∀V',Le [] V V'->(ik ps).length<=50->Q (.str (ik ps) 0) V'):ab c 5 (.ref 681) [.ref a] V Q:=by
 refine cZ (x0:="names") KT ?_
 intro env K
 try dsimp only at K
 ac_rfl
 refine oj ⟨trivial,?_⟩
 ac_rfl
 refine⟨_,ax (af ha),fun cenv CK=>?_⟩
 let F:I4:=fun i acc l' V' G=>Le [] V V'->acc= .l ((ps.take i).map aJ)->G
 refine aq (ps.map aJ) F ?_ ?_ ?_ (ps.map aJ).length 0 (Nat.zero_add _) (by exact fun _ k=>k (.refl ..) rfl)
 ·rintro i acc l' V' L _
  exact aE (af (L.ro _ _ ha)) i
 ·rintro i v acc l' V' hv R hR L rfl
  refine be (ii hv) fun y hy z2=>?_;subst z2
  ac_rfl
  refine ab.at (ix KT (lW (hp y (List.mem_of_getElem? hy))) (hk.mono L.ro) fun V2 L2=>?_) (by lia)
  refine⟨by rw[List.length_map,List.length_take];exact sz (by lia),(hR _ _ _ _ fun _ k=>k (L.trans L2) ?_)⟩
  rw[am hy,List.map_append];rfl
 ·rintro acc l' V' L rfl
  rw[List.length_map,List.take_length]
  refine⟨_,rfl,fun la V3 L3 hla h3=>?_⟩
  ac_rfl
  refine kG (B:=20) (k:=2) (af h3) hl (fun y hy=>(lW (hp y hy)).len) (by decide) fun hj=>?_
  refine bo (m:=1) (k:=42) (by decide+kernel) (by lia) (by decide) fun h1=>?_
  ac_rfl
  refine bo (m:=43) (k:=1) (by lia) (by decide+kernel) (by decide) fun h2=>?_
  exact h _ (L.trans L3) (by show((("(":Str)++Txt.join " " ps)++(")":Str)).length<=50;lia)
theorem mc(KT:HK c){i:Int}(hi:i=0∨i=1)(h:(vy i).length<=10->Q (.str (vy i) 0) V):ab c 1 (.ref 688) [.str "int" 0,.int i 0] V Q:=by
 refine eC (x0:="kind") (x1:="value") KT ?_
 intro env K
 try dsimp only at K
 ac_rfl
 refine bo (m:=3) (k:=1) (by decide+kernel) (by decide+kernel) (by decide) fun h1=>?_
 ac_rfl
 refine iH ?_
 rw[show(("int":Str)==("int":Str))=true from by decide+kernel]
 ac_rfl
 refine oh (by rcases hi with rfl|rfl<;>decide) ?_
 refine bo (m:=4) (k:=1) h1 (xM hi) (by decide) fun h2=>?_
 ac_rfl
 exact h (Nat.le_trans h2 (by decide))
theorem AK(KT:HK c){av:Value}{p:Int×ai}(ha:ru n V av p)(hi:p.1=0∨p.1=1)(h:(lX p.1).length<=20->Q (.str (lX p.1) 0) V):ab c 2 (.ref 695) [av] V Q:=by
 refine cZ (x0:="alt") KT ?_
 intro env K
 try dsimp only at K
 refine ku ha fun ka na bv g1 g2 g3 g4=>?_
 ac_rfl
 refine ao g1 KT (bV _) (dq _) rfl rfl ?_
 ac_rfl
 refine⟨cP (af g2),aP (i:=0) (.inr (.inr (af g2))) rfl rfl (by decide) ?_⟩
 ac_rfl
 refine iH ?_
 rw[show(("lit":Str)==("con":Str))=false from by decide+kernel]
 ac_rfl
 refine ao g1 KT (bV _) (dq _) rfl rfl ?_
 ac_rfl
 refine⟨cP (af g2),aP (i:=1) (.inr (.inr (af g2))) rfl rfl (by decide) ?_⟩
 ac_rfl
 refine ao g1 KT (bV _) (dq _) rfl rfl ?_
 ac_rfl
 refine⟨cP (af g2),aP (i:=2) (.inr (.inr (af g2))) rfl rfl (by decide) ?_⟩
 ac_rfl
 refine ab.at (mc KT hi fun hl=>?_) (by lia)
 ac_rfl
 refine bo (m:=4) (k:=10) (by decide+kernel) hl (by decide) fun h1=>?_
 ac_rfl
 refine bo (m:=14) (k:=1) h1 (by decide+kernel) (by decide) fun h2=>?_
 exact h (Nat.le_trans h2 (by decide))
theorem pj(KT:HK c)(hB:tb n<=2000000)(ih:ma c n){w:Str}{a:Addr}{vs:List Value}{ts:List ai}{o:cq}(ha:V a=some o)(ho:o.bare= .list vs)(hw:w.length<=30)(hr:PySem.Paired (Rp n V) vs ts)(hl:ts.length<=4)(hok:∀t∈ts,iC n t)(hk:tB V)
  (h:∀V',Le [] V V'->(Txt.join " " (w::ts.map (eT n))).length<=5*tb n+160->Q (.str (Txt.join " " (w::ts.map (eT n))) 0) V'):ab c (10*n+12) (.ref 710) [.str w 0,.ref a] V Q:=by
 refine eC (x0:="word") (x1:="exprs") KT ?_
 intro env K
 try dsimp only at K
 have hrd:rd V a=some (.list vs):=by rw[af ha,ho]
 ac_rfl
 refine oj ⟨trivial,?_⟩
 ac_rfl
 refine⟨bW rfl,fun wa V1 L1 hwa h1=>?_⟩
 ac_rfl
 have ha1:=L1.at0 ha
 refine⟨_,ax (vs:=vs) (by rw[af ha1,ho]),fun cenv CK=>?_⟩
 let F:I4:=fun i acc l' V' G=>Le [] V1 V'->acc= .l (((ts.take i).map (eT n)).map aJ)->(∀t∈ts.take i,(eT n t).length<=tb n)->G
 refine aq vs F ?_ ?_ ?_ vs.length 0 (Nat.zero_add _) (by exact fun _ k=>k (.refl ..) rfl (by simp))
 ·rintro i acc l' V' L - -
  exact aE (by rw[af (L.at0 ha1),ho]) i
 ·rintro i v acc l' V' hv R hR L rfl hb
  refine be (Paired.get hr hv) fun t ht g4=>?_
  ac_rfl
  refine ab.at (ih (g4.mono (L1.trans L).ro) (hok t (List.mem_of_getElem? ht)) (hk.mono (L1.trans L).ro) fun V2 L2 hb2=>?_) (by lia)
  refine⟨by rw[List.length_map,List.length_map,List.length_take];exact sz (by lia),(hR _ _ _ _ fun _ k=>k (L.trans L2) ?_ ?_)⟩
  ·rw[am ht,List.map_append,List.map_append];rfl
  ·rw[am ht]
   intro z hz
   rcases List.mem_append.mp hz with q|q
   ·exact hb z q
   ·simp at q;subst q;exact hb2
 ·rintro acc l' V' L rfl hb
  rw[show ts.take vs.length=ts from List.take_of_length_le (by rw[hr.length];exact Nat.le_refl _)]at hb ⊢
  refine⟨_,rfl,fun la V3 L3 hla h3=>?_⟩
  refine dW (af ((L.trans L3).ro _ _ h1)) (af h3) (by simp;exact bK hl) fun ja hja=>?_
  have L4:Le [] V3 (V3.set ja (.list ([.str w 0]++(ts.map (eT n)).map aJ))):= .new hja
  ac_rfl
  refine kG (ys:=w::ts.map (eT n)) (B:=tb n+30) (k:=5) (af (aj ..)) (by simp;lia) ?_ (by lia) fun hj=>?_
  ·intro y hy
   rcases List.mem_cons.mp hy with rfl|q
   ·lia
   ·refine be (List.mem_map.mp q) fun t ht z2=>?_;subst z2
    have:=hb t ht
    exact bK this
  ·exact h _ (L1.trans (L.trans (L3.trans L4))) (by exact bK hj)
theorem vD(KT:HK c)(hB:tb n<=2000000)(ih:ma c n){a:Addr}{vs:List Value}{bs:List (Str×ai)}(ha:V a=some (.ro (.list vs)))(hr:PySem.Paired (gj n V) vs bs)(hl:bs.length<=2)(hok:∀p∈bs,p.1∈tC/\iC n p.2)(hk:tB V)
  (h:∀V',Le [] V V'->(ik (bs.map fun p=>iU p.1 (eT n p.2))).length<=2*tb n+60->Q (.str (ik (bs.map fun p=>iU p.1 (eT n p.2))) 0) V'):ab c (10*n+12) (.ref 700) [.ref a] V Q:=by
 refine cZ (x0:="binds") KT ?_
 intro env K
 try dsimp only at K
 ac_rfl
 refine oj ⟨trivial,?_⟩
 ac_rfl
 refine⟨_,ax (af ha),fun cenv CK=>?_⟩
 let F:I4:=fun i acc l' V' G=>Le [] V V'->(acc= .l (((bs.take i).map fun p=>iU p.1 (eT n p.2)).map aJ))->(∀p∈bs.take i,(iU p.1 (eT n p.2)).length<=tb n+23)->G
 refine aq vs F ?_ ?_ ?_ vs.length 0 (Nat.zero_add _) (by exact fun _ k=>k (.refl ..) rfl (by simp))
 ·rintro i acc l' V' L - -
  exact aE (af (L.at0 ha)) i
 ·rintro i v acc l' V' hv R hR L rfl hb
  refine be (Paired.get hr hv) fun z0 ht zr=>?_;refine dl zr fun qa tv z4 g2 g4=>?_;obtain⟨x,t⟩:=z0;subst z4
  have hx:=lW (hok _ (List.mem_of_getElem? ht)).1
  have hxl:=hx.len
  refine dp (af (L.ro _ _ g2)) rfl rfl ?_
  ac_rfl
  refine ab.at (ix KT hx (hk.mono L.ro) fun V1 L1=>?_) (by lia)
  refine bo (m:=1) (k:=20) (by decide+kernel) hx.len (by decide) fun e1=>?_
  ac_rfl
  refine bo (m:=21) (k:=1) e1 (by decide+kernel) (by decide) fun e2=>?_
  ac_rfl
  refine ab.at (ih (g4.mono (L.trans L1).ro) (hok _ (List.mem_of_getElem? ht)).2 (hk.mono (L.trans L1).ro) fun V2 L2 hb2=>?_) (by lia)
  refine bo (m:=22) (k:=tb n) e2 hb2 (by exact bK hB) fun e3=>?_
  ac_rfl
  refine bo (m:=22+tb n) (k:=1) e3 (by decide+kernel) (by exact bK hB) fun e4=>?_
  refine⟨by rw[List.length_map,List.length_map,List.length_take];exact sz (by lia),(hR _ _ _ _ fun _ k=>k (L.trans (L1.trans L2)) ?_ ?_)⟩
  ·rw[am ht,List.map_append,List.map_append];rfl
  ·rw[am ht]
   intro z hz
   rcases List.mem_append.mp hz with q|q
   ·exact hb z q
   ·simp at q;subst q;exact Nat.le_trans e4 (by lia)
 ·rintro acc l' V' L rfl hb
  rw[show bs.take vs.length=bs from List.take_of_length_le (by rw[hr.length];exact Nat.le_refl _)]at hb ⊢
  refine⟨_,rfl,fun la V3 L3 hla h3=>?_⟩
  ac_rfl
  refine kG (B:=tb n+23) (k:=2) (af h3) (by rw[List.length_map];exact hl) ?_ (by exact bC hB hB) fun hj=>?_
  ·intro y hy
   refine be (List.mem_map.mp hy) fun t ht z2=>?_;subst z2
   exact hb t ht
  refine bo (m:=1) (k:=2* (tb n+23+1)) (by decide+kernel) hj (by exact bC hB hB) fun h1=>?_
  ac_rfl
  refine bo (m:=1+2* (tb n+23+1)) (k:=1) h1 (by decide+kernel) (by exact bC hB hB) fun h2=>?_
  exact h _ (L.trans L3) (Nat.le_trans h2 (by lia))
theorem qy(KT:HK c)(hB:tb n<=2000000)(ih:ma c n){v:Value}{e:ai}{x:Str}{alts:List (Int×ai)}{o:Option ai}(h1:Rp (n+1) V v (.case e x alts o))(hok:iC (n+1) (.case e x alts o))(hk:tB V)
  (h:∀V',Le [] V V'->(sy (lY (eT n e) x (Txt.join " " (alts.map fun p=>iU (lX p.1) (eT n p.2)))) (o.map (eT n))).length<=3*tb n+200->Q (.str (sy (lY (eT n e) x (Txt.join " " (alts.map fun p=>iU (lX p.1) (eT n p.2)))) (o.map (eT n))) 0) V'):ab c (10*n+12) (.ref 705) [v] V Q:=by
 refine cZ (x0:="expr") KT ?_
 intro env K
 try dsimp only at K
 refine rO h1 fun ev a avs ov i1 i2 i3 i4 i5=>?_
 refine tL hok fun q1 q2 q3 q4 q5=>?_
 have hx:=lW q1
 let F:I2:=fun l1 V1 G=>Le [] V V1->Lk l1 "expr" v->((Txt.join " " (alts.map fun p=>iU (lX p.1) (eT n p.2))).length<=tb n+24)->(Lk l1 "ways" (.str (Txt.join " " (alts.map fun p=>iU (lX p.1) (eT n p.2))) 0))->G
 refine aC F ?_ ?_
 ·intro _ _
  ac_rfl
  refine oj ⟨trivial,?_⟩
  ac_rfl
  refine ao i1 KT (aK _) (bZ _) rfl rfl ?_
  refine⟨_,ax (af i3),fun cenv CK=>?_⟩
  let F:I4:=fun i acc l' V' G=>Le [] V V'->(acc= .l (((alts.take i).map fun p=>iU (lX p.1) (eT n p.2)).map aJ))->(∀p∈alts.take i,(iU (lX p.1) (eT n p.2)).length<=tb n+23)->G
  refine aq avs F ?_ ?_ ?_ avs.length 0 (Nat.zero_add _) (by exact fun _ k=>k (.refl ..) rfl (by simp))
  ·rintro i acc l' V' L - -
   exact aE (af (L.at0 i3)) i
  ·rintro i av acc l' V' hv R hR L rfl hb
   refine be (Paired.get i4 hv) fun p ht ga=>?_
   have hp:=q4 _ (List.mem_of_getElem? ht)
   have gA:ru n V av p:=ga
   refine ku ga fun ka na bv g1 g2 g3 g4=>?_
   ac_rfl
   refine ab.at (AK KT (gA.mono L.ro) hp.1 fun hkl=>?_) (by lia)
   refine bo (m:=1) (k:=20) (by decide+kernel) hkl (by decide) fun e1=>?_
   ac_rfl
   refine bo (m:=21) (k:=1) e1 (by decide+kernel) (by decide) fun e2=>?_
   ac_rfl
   refine ao (g1.mono L.ro) KT (bV _) (du _) rfl g4.hand ?_
   ac_rfl
   refine ab.at (ih (g4.mono L.ro) hp.2 (hk.mono L.ro) fun V2 L2 hb2=>?_) (by lia)
   refine bo (m:=22) (k:=tb n) e2 hb2 (by exact bK hB) fun e3=>?_
   ac_rfl
   refine bo (m:=22+tb n) (k:=1) e3 (by decide+kernel) (by exact bK hB) fun e4=>?_
   refine⟨by rw[List.length_map,List.length_map,List.length_take];exact sz (by lia),(hR _ _ _ _ fun _ k=>k (L.trans L2) ?_ ?_)⟩
   ·rw[am ht,List.map_append,List.map_append];rfl
   ·rw[am ht]
    intro z hz
    rcases List.mem_append.mp hz with q|q
    ·exact hb z q
    ·simp at q;subst q;exact Nat.le_trans e4 (by lia)
  ·rintro acc l' V' L rfl hb
   rw[show alts.take avs.length=alts from List.take_of_length_le (by rw[i4.length];exact Nat.le_refl _)]at hb ⊢
   refine⟨_,rfl,fun la V3 L3 hla h3=>?_⟩
   ac_rfl
   refine kG (B:=tb n+23) (k:=1) (af h3) (by rw[List.length_map];exact q2) ?_ (by exact bK hB) fun hj=>?_
   ·intro y hy
    refine be (List.mem_map.mp hy) fun t ht z2=>?_;subst z2
    exact hb t ht
   ac_rfl
   exact(fun _ k=>k (L.trans L3) (by rfl') (by lia) (by rfl'))
 rintro l1 V1 L1 b1 hj b2
 generalize Txt.join " " (alts.map fun p=>iU (lX p.1) (eT n p.2))=ways at*
 let F:I2:=fun l2 V2 G=>Le [] V V2->Lk l2 "expr" v->(lY (eT n e) x ways).length<=2*tb n+60->Lk l2 "found" (.str (lY (eT n e) x ways) 0)->G
 refine aC F ?_ ?_
 ·intro _ _
  ac_rfl
  refine ao (i1.mono L1.ro) KT (aK _) (cC _) rfl i2.hand ?_
  ac_rfl
  refine ab.at (ih (i2.mono L1.ro) q3 (hk.mono L1.ro) fun V2 L2 hb2=>?_) (by lia)
  refine bo (m:=5) (k:=tb n) (by decide+kernel) hb2 (by exact bK hB) fun e1=>?_
  ac_rfl
  refine bo (m:=5+tb n) (k:=1) e1 (by decide+kernel) (by exact bK hB) fun e2=>?_
  ac_rfl
  refine ao (i1.mono (L1.trans L2).ro) KT (aK _) (dv _) rfl rfl ?_
  ac_rfl
  refine ab.at (ix KT hx (hk.mono (L1.trans L2).ro) fun V3 L3=>?_) (by lia)
  refine bo (m:=6+tb n) (k:=20) (by lia) hx.len (by lia) fun e3=>?_
  ac_rfl
  refine bo (m:=26+tb n) (k:=2) (by lia) (by decide+kernel) (by lia) fun e4=>?_
  ac_rfl
  refine bo (m:=28+tb n) (k:=tb n+24) (by lia) hj (by lia) fun e5=>?_
  ac_rfl
  refine bo (m:=52+2*tb n) (k:=1) (by lia) (by decide+kernel) (by lia) fun e6=>?_
  ac_rfl
  exact(fun _ k=>k (L1.trans (L2.trans L3)) (by rfl') (Nat.le_trans e6 (by lia)) (by rfl'))
 rintro l2 V2 L2 d1 hcl d2
 generalize lY (eT n e) x ways=found at*
 ac_rfl
 refine ao (i1.mono L2.ro) KT (aK _) (bg _) rfl (by cases o with|none=>rw[show ov= .none from i5];rfl|some t=>exact Rp.hand (n:=n) i5) ?_
 ac_rfl
 refine gZ (by cases o with|none=>(rw[show ov= .none from i5];exact fun id q=>by cases q) |some t=>exact Rp.plain (n:=n) i5) ?_
 nofun
 induction o with
 |none=>
  rw[show ov= .none from i5,if_pos (show(Value.none==Value.none)=true from rfl)]
  ac_rfl
  exact h _ L2 (Nat.le_trans hcl (by lia))
 |some t=>
  have g4:Rp n V ov t:=i5
  rw[g4.notNone,if_neg (by decide)]
  ac_rfl
  refine bo (m:=2*tb n+60) (k:=7) hcl (by decide+kernel) (by exact bC hB hB) fun e1=>?_
  ac_rfl
  refine ao (i1.mono L2.ro) KT (aK _) (bg _) rfl g4.hand ?_
  ac_rfl
  refine ab.at (ih (g4.mono L2.ro) (q5 t rfl) (hk.mono L2.ro) fun V3 L3 hb3=>?_) (by lia)
  refine bo (m:=2*tb n+67) (k:=tb n) (by lia) hb3 (by exact gi hB hB hB) fun e2=>?_
  ac_rfl
  refine bo (m:=3*tb n+67) (k:=1) (by lia) (by decide+kernel) (by lia) fun e3=>?_
  exact h _ (L2.trans L3) (Nat.le_trans e3 (by lia))
end
section
variable{c:Cx}{d n:Nat}{env:Env}{l:au}{V:St}{p pos:Pos}{Q:Value->St->Prop}{QB:Bool->St->Prop}{QF:Fl->au->St->Prop}{QL:au->St->Prop}{ns:List (Str×NameKind)}
noncomputable def rH(n:Nat)(t:ai):Str:=match t with
    | .var x=>x
    | .lit i=>vy i
    | .prim op as=>Txt.join " " ((("prim ":Str)++op)::as.map (eT n))
    | .con x as=>Txt.join " " ((("con ":Str)++x)::as.map (eT n))
    | .lam ps b=>((("lam ":Str)++ik ps)++(" ":Str))++eT n b
    | .app f as=>Txt.join " " (("app":Str)::eT n f::as.map (eT n))
    | .case e x alts o=>sy (lY (eT n e) x (Txt.join " " (alts.map fun p=>iU (lX p.1) (eT n p.2)))) (o.map (eT n))
    | .letn bs b r=>((xL r++ik (bs.map fun p=>iU p.1 (eT n p.2)))++(" ":Str))++eT n b
set_option maxHeartbeats 4000000 in
theorem vE(KT:HK c)(hB:tb n<=2000000)(ih:ma c n){v:Value}{t:ai}(h1:Rp (n+1) V v t)(hok:iC (n+1) t)(hnv:bh t≠59)(hk:tB V)
  (h:∀V',Le [] V V'->(rH n t).length<=5*tb n+300->Q (.str (rH n t) 0) V'):ab c (10*n+15) (.ref 717) [v] V Q:=by
 refine cZ (x0:="expr") KT ?_
 intro env K
 try dsimp only at K
 ac_rfl
 induction t using ai.cs with
 |var x=>exact absurd rfl hnv
 |lit i=>
  refine az (b:=true) KT h1 rfl rfl ?_
  ac_rfl
  refine ao (Rp.lit_ia h1) KT (dX _) (fS _) rfl rfl ?_
  ac_rfl
  refine ao (Rp.lit_ia h1) KT (dX _) (fk _) rfl rfl ?_
  ac_rfl
  refine ab.at (mc KT hok fun hl=>?_) (by lia)
  ac_rfl
  exact h _ (.refl ..) (Nat.le_trans hl (by lia))
 |prim op as=>
  refine az (b:=false) KT h1 rfl rfl ?_
  ac_rfl
  refine az (b:=true) KT h1 rfl rfl ?_
  ac_rfl
  refine dl h1 fun a vs i1 i2 i3=>?_
  have hx:=lW hok.1
  refine ao i1 KT (cn _) (dO _) rfl rfl ?_
  ac_rfl
  refine ab.at (ix KT hx hk fun V1 L1=>?_) (by lia)
  refine bo (m:=5) (k:=20) (by decide+kernel) hx.len (by decide) fun e1=>?_
  ac_rfl
  refine ao (i1.mono L1.ro) KT (cn _) (cT _) rfl rfl ?_
  ac_rfl
  refine ab.at (pj KT hB ih (L1.ro _ _ i2) rfl (by lia) (Paired.imp (fun _ _ q=>q.mono L1.ro) i3) (by have:=hok.2.1;lia) hok.2.2 (hk.mono L1.ro) fun V2 L2 hj=>?_) (by lia)
  ac_rfl
  exact h _ (L1.trans L2) (Nat.le_trans hj (by lia))
 |con op as=>
  refine az (b:=false) KT h1 rfl rfl ?_
  ac_rfl
  refine az (b:=true) KT h1 rfl rfl ?_
  ac_rfl
  refine dl h1 fun a vs i1 i2 i3=>?_
  have hx:=lW hok.1
  refine ao i1 KT (dk _) (dN _) rfl rfl ?_
  ac_rfl
  refine ab.at (ix KT hx hk fun V1 L1=>?_) (by lia)
  refine bo (m:=4) (k:=20) (by decide+kernel) hx.len (by decide) fun e1=>?_
  ac_rfl
  refine ao (i1.mono L1.ro) KT (dk _) (eM _) rfl rfl ?_
  ac_rfl
  refine ab.at (pj KT hB ih (L1.ro _ _ i2) rfl (by lia) (Paired.imp (fun _ _ q=>q.mono L1.ro) i3) (by have:=hok.2.1;lia) hok.2.2 (hk.mono L1.ro) fun V2 L2 hj=>?_) (by lia)
  ac_rfl
  exact h _ (L1.trans L2) (Nat.le_trans hj (by lia))
 |lam ps b=>
  refine az (b:=false) KT h1 rfl rfl ?_
  ac_rfl
  refine az (b:=true) KT h1 rfl rfl ?_
  ac_rfl
  refine dl h1 fun a bv i1 i2 i3=>?_
  refine ao i1 KT (bP _) (bB _) rfl rfl ?_
  ac_rfl
  refine ab.at (vC KT i2 hok.1 hok.2.1 hk fun V1 L1 hn=>?_) (by lia)
  refine bo (m:=4) (k:=50) (by decide+kernel) hn (by decide) fun e1=>?_
  ac_rfl
  refine bo (m:=54) (k:=1) e1 (by decide+kernel) (by decide) fun e2=>?_
  ac_rfl
  refine ao (i1.mono L1.ro) KT (bP _) (cB _) rfl i3.hand ?_
  ac_rfl
  refine ab.at (ih (i3.mono L1.ro) hok.2.2 (hk.mono L1.ro) fun V2 L2 hb=>?_) (by lia)
  refine bo (m:=55) (k:=tb n) e2 hb (by exact bK hB) fun e3=>?_
  ac_rfl
  exact h _ (L1.trans L2) (Nat.le_trans e3 (by lia))
 |app f as=>
  refine az (b:=false) KT h1 rfl rfl ?_
  ac_rfl
  refine az (b:=true) KT h1 rfl rfl ?_
  ac_rfl
  refine ku h1 fun fv a vs i1 i2 i3 i4=>?_
  refine ao i1 KT (aS _) (aU _) rfl i2.hand ?_
  ac_rfl
  refine⟨bW rfl,fun wa V1 L1 hwa h2=>?_⟩
  ac_rfl
  refine ao (i1.mono L1.ro) KT (aS _) (bH _) rfl rfl ?_
  ac_rfl
  have hal:=hok.1
  refine ug (.inl (af (L1.ro _ _ i3))) (by rw[i4.length];lia) fun la hla=>?_
  have L2:Le [] V1 (V1.set la (.list vs)):= .new hla
  refine dW (af (L2.ro _ _ h2)) (af (aj ..)) (by rw[i4.length];simp;exact bK hal) fun ja hja=>?_
  have L3:Le [] (V1.set la (.list vs)) ((V1.set la (.list vs)).set ja (.list ([fv]++vs))):= .new hja
  have LL:=L1.trans (L2.trans L3)
  ac_rfl
  refine ab.at (pj (ts:=f::as) KT hB ih (aj ..) rfl (by decide+kernel) (.cons (i2.mono LL.ro) (Paired.imp (fun _ _ q=>q.mono LL.ro) i4)) (by simp;lia) (fun t ht=>?_) (hk.mono LL.ro) fun V2 L4 hj=>?_) (by lia)
  ·rcases List.mem_cons.mp ht with rfl|q
   ·exact hok.2.1
   ·exact hok.2.2 t q
  ac_rfl
  exact h _ (LL.trans L4) (Nat.le_trans hj (by lia))
 |case e x alts o=>
  refine az (b:=false) KT h1 rfl rfl ?_
  ac_rfl
  refine az (b:=true) KT h1 rfl rfl ?_
  ac_rfl
  refine ab.at (qy KT hB ih h1 hok hk fun V1 L1 hl=>?_) (by lia)
  ac_rfl
  exact h _ L1 (Nat.le_trans hl (by lia))
 |letn bs b r=>
  refine az (b:=false) KT h1 rfl rfl ?_
  ac_rfl
  refine az (b:=true) KT h1 rfl rfl ?_
  refine fg (jG (lr ?_))
  refine ku h1 fun a pvs bv i1 i2 i3 i4=>?_
  let F:I2:=fun l1 V1 G=>V=V1->Lk l1 "expr" v->Lk l1 "word" (.str (xL r) 0)->G
  refine aC F ?_ ?_
  ·intro _ _
   ac_rfl
   refine ao i1 KT (aM _) (bp _) rfl rfl ?_
   nofun
   induction r with
   |true=>
    ac_rfl
    exact(fun _ k=>k rfl (by rfl') (by rfl'))
   |false=>
    ac_rfl
    exact(fun _ k=>k rfl (by rfl') (by rfl'))
  rintro l1 V1 rfl b1 b2
  have hw:(xL r).length<=7:=by induction r<;>decide+kernel
  ac_rfl
  refine ao i1 KT (aM _) (bf _) rfl rfl ?_
  ac_rfl
  refine ab.at (vD KT hB ih i2 i3 hok.1 hok.2.1 hk fun V2 L2 hl=>?_) (by lia)
  refine bo (m:=7) (k:=2*tb n+60) hw hl (by exact bC hB hB) fun e1=>?_
  ac_rfl
  refine bo (m:=2*tb n+67) (k:=1) (by lia) (by decide+kernel) (by lia) fun e2=>?_
  ac_rfl
  refine ao (i1.mono L2.ro) KT (aM _) (bI _) rfl i4.hand ?_
  ac_rfl
  refine ab.at (ih (i4.mono L2.ro) hok.2.2 (hk.mono L2.ro) fun V3 L3 hb=>?_) (by lia)
  refine bo (m:=2*tb n+68) (k:=tb n) (by lia) hb (by exact gi hB hB hB) fun e3=>?_
  ac_rfl
  exact h _ (L2.trans L3) (Nat.le_trans e3 (by lia))
theorem tE(KT:HK c)(hB:tb n<=2000000)(ih:ma c n):ma c (n+1):=by
 intro V v t Q h1 hok hk h
 refine ab.deeper (d:=10*n+16) ?_ (by lia)
 refine cZ (x0:="expr") KT ?_
 intro env K
 try dsimp only at K
 have htb:tb (n+1)=5*tb n+400:=rfl
 ac_rfl
 refine d9 KT h1 rfl ?_
 ac_rfl
 by_cases hv:bh t=59
 ·refine bu (by rw[hv];rfl) ?_
  induction t using ai.cs<;>first| (cases hv;done) |skip
  rename_i x
  have hx:=lW (x:=x) hok
  ac_rfl
  refine ao h1.var_ia KT (dE _) (bT _) rfl rfl ?_
  ac_rfl
  refine ab.at (ix KT hx hk fun V1 L1=>?_) (by lia)
  ac_rfl
  exact h _ L1 (by have:=hx.len;show x.length<=_;lia)
 ·refine bz (by simpa using hv) ?_
  ac_rfl
  refine ab.at (vE KT hB ih h1 hok hv hk fun V1 L1 hl=>?_) (by lia)
  refine bo (m:=1) (k:=5*tb n+300) (by decide+kernel) hl (by lia) fun e1=>?_
  ac_rfl
  refine bo (m:=5*tb n+301) (k:=1) (by lia) (by decide+kernel) (by lia) fun e2=>?_
  have ht:eT (n+1) t=(("(":Str)++rH n t)++(")":Str):=by induction t using ai.cs<;>first|rfl|exact absurd rfl hv
  rw[ht]at h
  exact h _ L1 (Nat.le_trans e2 (by exact bK (Nat.le_of_eq htb.symm)))
theorem pk(KT:HK c):∀n,n<=6->ma c n
 |0,_=>fun h=>h.elim
 |n+1,hn=>tE KT (vz n (by lia)) (pk KT n (by lia))
end
noncomputable def iV(k:Nat):Value:= .int (k:Int) 0
noncomputable def bX:ai->List (List Str)
 | .lam ps _=>[ps]
 | .letn bs _ _=>[bs.map (·.1)]
 | .case _ x alts _=>[x]::alts.map fun _=>[]
 | .var _=>[]
 | .lit _=>[]
 | .prim .. =>[]
 | .con .. =>[]
 | .app .. =>[]
noncomputable def eA:Nat->List (Int×ai)->List (ai×List Nat)
 |_,[]=>[]
 |i,p::r=>(p.2,[0,i+1])::eA (i+1) r
noncomputable def fL:ai->List (ai×List Nat)
 | .prim _ as=>as.map fun a=>(a,[])
 | .con _ as=>as.map fun a=>(a,[])
 | .app f as=>(f,[])::as.map fun a=>(a,[])
 | .lam _ b=>[(b,[0])]
 | .letn bs b r=>(bs.map fun p=>(p.2,if r=true then [0]else []))++ [(b,[0])]
 | .case e _ alts o=>((e,[])::eA 0 alts)++(match o with
   |none=>[]
   |some t=>[(t,[0])])
 | .var _=>[]
 | .lit _=>[]
def Cd(V:St)(w:Value)(g:List Str):Prop:=∃b,w= .ref b/\V b=some (.ro (.list (g.map aJ)))
def sB(V:St)(v:Value)(gs:List (List Str)):Prop:=∃a vs,v= .ref a/\V a=some (.ro (.list vs))/\PySem.Paired (Cd V) vs gs
def tF(n:Nat)(V:St)(w:Value)(p:ai×List Nat):Prop:=∃q tv sc,w= .ref q/\V q=some (.ro (.tup [tv,.ref sc]))/\Rp n V tv p.1/\V sc=some (.ro (.tup (p.2.map iV)))
def xN(n:Nat)(V:St)(v:Value)(ps:List (ai×List Nat)):Prop:=∃a vs,v= .ref a/\V a=some (.ro (.list vs))/\PySem.Paired (tF n V) vs ps
theorem Cd.mono{V V':St}{w:Value}{g:List Str}(h:Cd V w g)(L:Ro V V'):Cd V' w g:=by obtain⟨b,e,h1⟩:=h;exact⟨b,e,L _ _ h1⟩
theorem sB.mono{V V':St}{v:Value}{gs:List (List Str)}(h:sB V v gs)(L:Ro V V'):sB V' v gs:=by obtain⟨a,vs,e,h1,h2⟩:=h;exact⟨a,vs,e,L _ _ h1,Paired.imp (fun _ _ q=>q.mono L) h2⟩
theorem tF.mono{n:Nat}{V V':St}{w:Value}{p:ai×List Nat}(h:tF n V w p)(L:Ro V V'):tF n V' w p:=by obtain⟨q,tv,sc,e,h1,h2,h3⟩:=h;exact⟨q,tv,sc,e,L _ _ h1,h2.mono L,L _ _ h3⟩
theorem mf:∀(i:Nat) (al:List (Int×ai)) (p:Int×ai),eA i (al++ [p])=eA i al++ [(p.2,[0,i+al.length+1])]
 |i,[],p=>rfl
 |i,q::r,p=>by
  show(q.2,[0,i+1])::eA (i+1) (r++ [p])=_
  rw[mf (i+1) r p]
  show _=(q.2,[0,i+1])::(eA (i+1) r++_)
  rw[List.length_cons,show i+1+r.length+1=i+(r.length+1)+1 by lia]
theorem iy:∀(i:Nat) (al:List (Int×ai)),(eA i al).length=al.length
 |_,[]=>rfl
 |i,q::r=>by show(eA (i+1) r).length+1=_;rw[iy (i+1) r,List.length_cons]
section
variable{c:Cx}{d n:Nat}{env:Env}{l:au}{V:St}{p pos:Pos}{Q:Value->St->Prop}{QB:Bool->St->Prop}{QF:Fl->au->St->Prop}{QL:au->St->Prop}{ns:List (Str×NameKind)}
theorem AM(KT:HK c){v:Value}(h:∀w V',Le [] V V'->sB V' w []->Q w V'):ab c 2 (.ref 42) [v] V Q:=by
 refine ab.frz (cZ (x0:="self") KT ?_)
 intro env K
 try dsimp only at K
 ac_rfl
 refine⟨bW rfl,fun a V1 L1 ha h1=>?_⟩
 ac_rfl
 exact⟨[],h _ _ L1 ⟨a,[],rfl,h1,.nil⟩⟩
theorem AN(KT:HK c){v:Value}(h:∀w V',Le [] V V'->sB V' w []->Q w V'):ab c 2 (.ref 84) [v] V Q:=by
 refine ab.frz (cZ (x0:="self") KT ?_)
 intro env K
 try dsimp only at K
 ac_rfl
 refine⟨bW rfl,fun a V1 L1 ha h1=>?_⟩
 ac_rfl
 exact⟨[],h _ _ L1 ⟨a,[],rfl,h1,.nil⟩⟩
theorem AO(KT:HK c){v:Value}(h:∀w V',Le [] V V'->sB V' w []->Q w V'):ab c 2 (.ref 126) [v] V Q:=by
 refine ab.frz (cZ (x0:="self") KT ?_)
 intro env K
 try dsimp only at K
 ac_rfl
 refine⟨bW rfl,fun a V1 L1 ha h1=>?_⟩
 ac_rfl
 exact⟨[],h _ _ L1 ⟨a,[],rfl,h1,.nil⟩⟩
theorem AP(KT:HK c){v:Value}(h:∀w V',Le [] V V'->sB V' w []->Q w V'):ab c 2 (.ref 307) [v] V Q:=by
 refine ab.frz (cZ (x0:="self") KT ?_)
 intro env K
 try dsimp only at K
 ac_rfl
 refine⟨bW rfl,fun a V1 L1 ha h1=>?_⟩
 ac_rfl
 exact⟨[],h _ _ L1 ⟨a,[],rfl,h1,.nil⟩⟩
theorem xO(KT:HK c){v:Value}(h:∀w V',Le [] V V'->sB V' w []->Q w V'):ab c 2 (.ref 347) [v] V Q:=by
 refine ab.frz (cZ (x0:="self") KT ?_)
 intro env K
 try dsimp only at K
 ac_rfl
 refine⟨bW rfl,fun a V1 L1 ha h1=>?_⟩
 ac_rfl
 exact⟨[],h _ _ L1 ⟨a,[],rfl,h1,.nil⟩⟩
theorem AQ(KT:HK c){v:Value}(h:∀w V',Le [] V V'->xN n V' w []->Q w V'):ab c 2 (.ref 49) [v] V Q:=by
 refine ab.frz (cZ (x0:="self") KT ?_)
 intro env K
 try dsimp only at K
 ac_rfl
 refine⟨bW rfl,fun a V1 L1 ha h1=>?_⟩
 ac_rfl
 exact⟨[],h _ _ L1 ⟨a,[],rfl,h1,.nil⟩⟩
theorem AR(KT:HK c){v:Value}(h:∀w V',Le [] V V'->xN n V' w []->Q w V'):ab c 2 (.ref 91) [v] V Q:=by
 refine ab.frz (cZ (x0:="self") KT ?_)
 intro env K
 try dsimp only at K
 ac_rfl
 refine⟨bW rfl,fun a V1 L1 ha h1=>?_⟩
 ac_rfl
 exact⟨[],h _ _ L1 ⟨a,[],rfl,h1,.nil⟩⟩
theorem AS(KT:HK c){v bv:Value}{a:Addr}{ps:List Str}(i1:IA V v 183 [("params",.ref a),("body",bv)])(i2:V a=some (.ro (.list (ps.map aJ))))(h:∀w V',Le [] V V'->sB V' w [ps]->Q w V'):ab c 2 (.ref 166) [v] V Q:=by
 refine ab.frz (cZ (x0:="self") KT ?_)
 intro env K
 try dsimp only at K
 ac_rfl
 refine ao i1 KT (bP _) (bB _) rfl rfl ?_
 ac_rfl
 refine⟨bW rfl,fun ga V1 L1 hga h1=>?_⟩
 ac_rfl
 exact⟨[],h _ _ L1 ⟨ga,_,rfl,h1,.cons ⟨a,rfl,L1.ro _ _ i2⟩ .nil⟩⟩
theorem AT(KT:HK c){v bv rv:Value}{a:Addr}{vs:List Value}{bs:List (Str×ai)}(i1:IA V v 221 [("binds",.ref a),("body",bv),("is_rec",rv)])(i2:V a=some (.ro (.list vs)))(i3:PySem.Paired (gj n V) vs bs)(hl:bs.length<=100)(h:∀w V',Le [] V V'->sB V' w [bs.map (·.1)]->Q w V'):ab c 2 (.ref 206) [v] V Q:=by
 refine ab.frz (cZ (x0:="self") KT ?_)
 intro env K
 try dsimp only at K
 ac_rfl
 refine ao i1 KT (aM _) (bf _) rfl rfl ?_
 refine⟨_,ax (af i2),fun cenv CK=>?_⟩
 let F:I4:=fun i acc l' V' G=>Le [] V V'->acc= .l (((bs.take i).map (·.1)).map aJ)->G
 refine aq vs F ?_ ?_ ?_ vs.length 0 (Nat.zero_add _) (by exact fun _ k=>k (.refl ..) rfl)
 ·rintro i acc l' V' L _
  exact aE (af (L.at0 i2)) i
 ·rintro i w acc l' V' hv R hR L rfl
  refine be (Paired.get i3 hv) fun z0 ht zr=>?_;refine dl zr fun qa tv z4 g2 g4=>?_;obtain⟨x,t⟩:=z0;subst z4
  refine dp (af (L.ro _ _ g2)) rfl rfl ?_
  ac_rfl
  refine⟨by rw[List.length_map,List.length_map,List.length_take];exact sz (by lia),(hR _ _ _ _ fun _ k=>k L ?_)⟩
  rw[am ht,List.map_append,List.map_append];rfl
 ·rintro acc l' V' L rfl
  rw[show bs.take vs.length=bs from List.take_of_length_le (by rw[i3.length];exact Nat.le_refl _)]
  refine⟨_,rfl,fun la V1 L1 hla h1=>?_⟩
  ac_rfl
  refine⟨bW rfl,fun ga V2 L2 hga h2=>?_⟩
  ac_rfl
  exact⟨[],h _ _ (L.trans (L1.trans L2)) ⟨ga,_,rfl,h2,.cons ⟨la,rfl,L2.ro _ _ h1⟩ .nil⟩⟩
theorem xP(KT:HK c){v ev ov:Value}{a:Addr}{x:Str}{vs:List Value}{alts:List (Int×ai)}(i1:IA V v 282 [("value",ev),("name",.str x 0),("alts",.ref a),("other",ov)])(i2:V a=some (.ro (.list vs)))(i3:PySem.Paired (ru n V) vs alts)(hl:alts.length<=100)(h:∀w V',Le [] V V'->sB V' w ([x]::alts.map fun _=>[])->Q w V'):ab c 2 (.ref 265) [v] V Q:=by
 refine ab.frz (cZ (x0:="self") KT ?_)
 intro env K
 try dsimp only at K
 ac_rfl
 refine ao i1 KT (aK _) (dv _) rfl rfl ?_
 ac_rfl
 refine⟨bW rfl,fun xa V1 L1 hxa h1=>?_⟩
 ac_rfl
 refine⟨bW rfl,fun ga V2 L2 hga h2=>?_⟩
 ac_rfl
 have L12:=L1.trans L2
 refine ao (i1.mono L12.ro) KT (aK _) (bZ _) rfl rfl ?_
 refine⟨_,ax (af (L12.at0 i2)),fun cenv CK=>?_⟩
 let F:I4:=fun i acc l' V' G=>Le [] V2 V'->∀rs,acc= .l rs->(PySem.Paired (Cd V') rs ((alts.take i).map fun _=>[]))->G
 refine aq vs F ?_ ?_ ?_ vs.length 0 (Nat.zero_add _) (by exact fun _ k=>k (.refl ..) ([]) rfl .nil)
 ·rintro i acc l' V' L - - -
  exact aE (af (L.at0 (L12.at0 i2))) i
 ·rintro i w acc l' V' hv R hR L rs rfl hr
  obtain⟨p,ht,ka,na,bv,g1,g2,g3,g4⟩:=Paired.get i3 hv
  have R:=(L12.trans L).ro
  ac_rfl
  refine ao (g1.mono R) KT (bV _) (dY _) rfl rfl ?_
  refine⟨by rw[hr.length,List.length_map,List.length_take];exact sz (by lia),(hR _ _ _ _ fun _ k=>k L (rs++ [.ref na]) rfl ?_)⟩
  rw[am ht,List.map_append]
  exact Paired.snoc' hr ⟨na,rfl,R _ _ g3⟩
 ·rintro acc l' V' L rs rfl hr
  rw[show alts.take vs.length=alts from List.take_of_length_le (by rw[i3.length];exact Nat.le_refl _)]at hr
  refine⟨_,rfl,fun la V3 L3 hla h3=>?_⟩
  have hrl:rs.length<=100:=by rw[hr.length,List.length_map];exact hl
  refine dW (af ((L.trans L3).ro _ _ h2)) (af h3) (by simp;exact bK hrl) fun ja hja=>?_
  have L4:Le [] V3 (V3.set ja (.list ([.ref xa]++rs))):= .new hja
  have L34:=L3.trans L4
  have L24:=L2.trans (L.trans L34)
  ac_rfl
  refine⟨[ja],h _ _ (aR (L1.trans L24) ?_) ⟨ja,_,rfl,aN List.mem_cons_self (aj ..) rfl,.cons ⟨xa,rfl,aD _ _ _ _ (L24.ro _ _ h1)⟩ (Paired.imp (fun _ _ q=>(q.mono L34.ro).mono (aD _ _)) hr)⟩⟩
  simp only[List.mem_singleton,forall_eq]
  exact .inl ((L12.trans (L.trans L3)).none0 hja nn)
theorem AU(KT:HK c){v nv:Value}{a:Addr}{vs:List Value}{as:List ai}(i1:IA V v 322 [("name",nv),("args",.ref a)])(i2:V a=some (.ro (.list vs)))(i3:PySem.Paired (Rp n V) vs as)(hl:as.length<=100)(h:∀w V',Le [] V V'->xN n V' w (as.map fun a=>(a,[]))->Q w V'):ab c 2 (.ref 312) [v] V Q:=by
 refine ab.frz (cZ (x0:="self") KT ?_)
 intro env K
 try dsimp only at K
 ac_rfl
 refine ao i1 KT (dk _) (eM _) rfl rfl ?_
 refine⟨_,ax (af i2),fun cenv CK=>?_⟩
 let F:I4:=fun i acc l' V' G=>Le [] V V'->∀rs,acc= .l rs->(PySem.Paired (tF n V') rs ((as.take i).map fun a=>(a,[])))->G
 refine aq vs F ?_ ?_ ?_ vs.length 0 (Nat.zero_add _) (by exact fun _ k=>k (.refl ..) ([]) rfl .nil)
 ·rintro i acc l' V' L - - -
  exact aE (af (L.at0 i2)) i
 ·rintro i w acc l' V' hv R hR L rs rfl hr
  refine be (Paired.get i3 hv) fun t ht g4=>?_
  have R:=L.ro
  ac_rfl
  refine⟨bW rfl,fun sa V1 L1 hsa h1=>?_⟩
  ac_rfl
  refine⟨bW rfl,fun qa V2 L2 hqa h2=>?_⟩
  have L12:=L1.trans L2
  refine⟨by rw[hr.length,List.length_map,List.length_take];exact sz (by lia),(hR _ _ _ _ fun _ k=>k (L.trans L12) (rs++ [.ref qa]) rfl ?_)⟩
  rw[am ht,List.map_append]
  exact Paired.snoc' (Paired.imp (fun _ _ q=>q.mono L12.ro) hr) ⟨qa,w,sa,rfl,h2,(g4.mono R).mono L12.ro,L2.ro _ _ h1⟩
 ·rintro acc l' V' L rs rfl hr
  rw[show as.take vs.length=as from List.take_of_length_le (by rw[i3.length];exact Nat.le_refl _)]at hr
  refine⟨_,rfl,fun la V3 L3 hla h3=>?_⟩
  ac_rfl
  exact⟨[],h _ _ (L.trans L3) ⟨la,rs,rfl,h3,Paired.imp (fun _ _ q=>q.mono L3.ro) hr⟩⟩
theorem xQ(KT:HK c){v nv:Value}{a:Addr}{vs:List Value}{as:List ai}(i1:IA V v 362 [("op",nv),("args",.ref a)])(i2:V a=some (.ro (.list vs)))(i3:PySem.Paired (Rp n V) vs as)(hl:as.length<=100)(h:∀w V',Le [] V V'->xN n V' w (as.map fun a=>(a,[]))->Q w V'):ab c 2 (.ref 352) [v] V Q:=by
 refine ab.frz (cZ (x0:="self") KT ?_)
 intro env K
 try dsimp only at K
 ac_rfl
 refine ao i1 KT (cn _) (cT _) rfl rfl ?_
 refine⟨_,ax (af i2),fun cenv CK=>?_⟩
 let F:I4:=fun i acc l' V' G=>Le [] V V'->∀rs,acc= .l rs->(PySem.Paired (tF n V') rs ((as.take i).map fun a=>(a,[])))->G
 refine aq vs F ?_ ?_ ?_ vs.length 0 (Nat.zero_add _) (by exact fun _ k=>k (.refl ..) ([]) rfl .nil)
 ·rintro i acc l' V' L - - -
  exact aE (af (L.at0 i2)) i
 ·rintro i w acc l' V' hv R hR L rs rfl hr
  refine be (Paired.get i3 hv) fun t ht g4=>?_
  have R:=L.ro
  ac_rfl
  refine⟨bW rfl,fun sa V1 L1 hsa h1=>?_⟩
  ac_rfl
  refine⟨bW rfl,fun qa V2 L2 hqa h2=>?_⟩
  have L12:=L1.trans L2
  refine⟨by rw[hr.length,List.length_map,List.length_take];exact sz (by lia),(hR _ _ _ _ fun _ k=>k (L.trans L12) (rs++ [.ref qa]) rfl ?_)⟩
  rw[am ht,List.map_append]
  exact Paired.snoc' (Paired.imp (fun _ _ q=>q.mono L12.ro) hr) ⟨qa,w,sa,rfl,h2,(g4.mono R).mono L12.ro,L2.ro _ _ h1⟩
 ·rintro acc l' V' L rs rfl hr
  rw[show as.take vs.length=as from List.take_of_length_le (by rw[i3.length];exact Nat.le_refl _)]at hr
  refine⟨_,rfl,fun la V3 L3 hla h3=>?_⟩
  ac_rfl
  exact⟨[],h _ _ (L.trans L3) ⟨la,rs,rfl,h3,Paired.imp (fun _ _ q=>q.mono L3.ro) hr⟩⟩
theorem AV(KT:HK c){v fv:Value}{a:Addr}{vs:List Value}{f:ai}{as:List ai}(i1:IA V v 141 [("fun",fv),("args",.ref a)])(if':Rp n V fv f)(i2:V a=some (.ro (.list vs)))(i3:PySem.Paired (Rp n V) vs as)(hl:as.length<=100)(h:∀w V',Le [] V V'->xN n V' w ((f,[])::as.map fun a=>(a,[]))->Q w V'):ab c 2 (.ref 131) [v] V Q:=by
 refine ab.frz (cZ (x0:="self") KT ?_)
 intro env K
 try dsimp only at K
 ac_rfl
 refine ao i1 KT (aS _) (aU _) rfl if'.hand ?_
 ac_rfl
 refine⟨bW rfl,fun fs V1 L1 hfs f1=>?_⟩
 ac_rfl
 refine⟨bW rfl,fun fq V2 L2 hfq f2=>?_⟩
 ac_rfl
 refine⟨bW rfl,fun fl V3 L3 hfl f3=>?_⟩
 ac_rfl
 have L13:=L1.trans (L2.trans L3)
 refine ao (i1.mono L13.ro) KT (aS _) (bH _) rfl rfl ?_
 refine⟨_,ax (af (L13.at0 i2)),fun cenv CK=>?_⟩
 let F:I4:=fun i acc l' V' G=>Le [] V3 V'->∀rs,acc= .l rs->(PySem.Paired (tF n V') rs ((as.take i).map fun a=>(a,[])))->G
 refine aq vs F ?_ ?_ ?_ vs.length 0 (Nat.zero_add _) (by exact fun _ k=>k (.refl ..) ([]) rfl .nil)
 ·rintro i acc l' V' L - - -
  exact aE (af ((L13.trans L).at0 i2)) i
 ·rintro i w acc l' V' hv R hR L rs rfl hr
  refine be (Paired.get i3 hv) fun t ht g4=>?_
  have R:=(L13.trans L).ro
  ac_rfl
  refine⟨bW rfl,fun sa V1 L1 hsa h1=>?_⟩
  ac_rfl
  refine⟨bW rfl,fun qa V2 L2 hqa h2=>?_⟩
  have L12:=L1.trans L2
  refine⟨by rw[hr.length,List.length_map,List.length_take];exact sz (by lia),(hR _ _ _ _ fun _ k=>k (L.trans L12) (rs++ [.ref qa]) rfl ?_)⟩
  rw[am ht,List.map_append]
  exact Paired.snoc' (Paired.imp (fun _ _ q=>q.mono L12.ro) hr) ⟨qa,w,sa,rfl,h2,(g4.mono R).mono L12.ro,L2.ro _ _ h1⟩
 ·rintro acc l' V' L rs rfl hr
  rw[show as.take vs.length=as from List.take_of_length_le (by rw[i3.length];exact Nat.le_refl _)]at hr
  refine⟨_,rfl,fun la V4 L4 hla h4=>?_⟩
  have hrl:rs.length<=100:=by rw[hr.length,List.length_map];exact hl
  refine dW (af ((L.trans L4).ro _ _ f3)) (af h4) (by simp;exact bK hrl) fun ja hja=>?_
  have L5:Le [] V4 (V4.set ja (.list ([.ref fq]++rs))):= .new hja
  have L45:=L4.trans L5
  have L35:=L.trans L45
  ac_rfl
  refine⟨[ja],h _ _ (aR (L13.trans L35) ?_) ⟨ja,_,rfl,aN List.mem_cons_self (aj ..) rfl,.cons ⟨fq,fv,fs,rfl,aD _ _ _ _ ((L3.trans L35).ro _ _ f2),((if'.mono L13.ro).mono L35.ro).mono (aD _ _),aD _ _ _ _ ((L2.trans (L3.trans L35)).ro _ _ f1)⟩ (Paired.imp (fun _ _ q=>(q.mono L45.ro).mono (aD _ _)) hr)⟩⟩
  simp only[List.mem_singleton,forall_eq]
  exact .inl ((L13.trans (L.trans L4)).none0 hja nn)
theorem AW(KT:HK c){v bv pv:Value}{b:ai}(i1:IA V v 183 [("params",pv),("body",bv)])(i2:Rp n V bv b)(h:∀w V',Le [] V V'->xN n V' w [(b,[0])]->Q w V'):ab c 2 (.ref 173) [v] V Q:=by
 refine ab.frz (cZ (x0:="self") KT ?_)
 intro env K
 try dsimp only at K
 ac_rfl
 refine ao i1 KT (bP _) (cB _) rfl i2.hand ?_
 ac_rfl
 refine⟨bW rfl,fun fs V1 L1 hfs f1=>?_⟩
 ac_rfl
 refine⟨bW rfl,fun fq V2 L2 hfq f2=>?_⟩
 ac_rfl
 refine⟨bW rfl,fun fl V3 L3 hfl f3=>?_⟩
 ac_rfl
 exact⟨[],h _ _ (L1.trans (L2.trans L3)) ⟨fl,_,rfl,f3,.cons ⟨fq,bv,fs,rfl,L3.ro _ _ f2,i2.mono (L1.trans (L2.trans L3)).ro,(L2.trans L3).ro _ _ f1⟩ .nil⟩⟩
theorem AX(KT:HK c){v bv:Value}{r:Bool}{a:Addr}{vs:List Value}{bs:List (Str×ai)}{b:ai}(i1:IA V v 221 [("binds",.ref a),("body",bv),("is_rec",.bool r)])(i2:V a=some (.ro (.list vs)))(i3:PySem.Paired (gj n V) vs bs)(i4:Rp n V bv b)(hl:bs.length<=100)(h:∀w V',Le [] V V'->xN n V' w ((bs.map fun p=>(p.2,if r=true then [0]else []))++ [(b,[0])])->Q w V'):ab c 2 (.ref 211) [v] V Q:=by
 refine ab.frz (cZ (x0:="self") KT ?_)
 intro env K
 try dsimp only at K
 let F:I2:=fun l1 V1 G=>Le [] V V1->Lk l1 "self" v->∀sa,Lk l1 "scope" (.ref sa)->V1 sa=some (.ro (.tup ((if r=true then [0]else []:List Nat).map iV)))->G
 refine aC F ?_ ?_
 ·intro _ _
  ac_rfl
  refine ao i1 KT (aM _) (bp _) rfl rfl ?_
  nofun
  induction r with
  |true=>
   rw[if_pos rfl]
   ac_rfl
   refine⟨bW rfl,fun fs V1 L1 hfs f1=>?_⟩
   ac_rfl
   exact(fun _ k=>k L1 (by rfl') fs (by rfl') f1)
  |false=>
   rw[if_neg (by decide)]
   ac_rfl
   refine⟨bW rfl,fun fs V1 L1 hfs f1=>?_⟩
   ac_rfl
   exact(fun _ k=>k L1 (by rfl') fs (by rfl') f1)
 rintro l1 V1 L1 b1 sa b2 hsa
 ac_rfl
 refine ao (i1.mono L1.ro) KT (aM _) (bf _) rfl rfl ?_
 refine⟨_,ax (af (L1.at0 i2)),fun cenv CK=>?_⟩
 let F:I4:=fun i acc l' V' G=>Le [] V1 V'->Lk l' "scope" (.ref sa)->∀rs,acc= .l rs->(PySem.Paired (tF n V') rs ((bs.take i).map fun p=>(p.2,if r=true then [0]else [])))->G
 refine aq vs F ?_ ?_ ?_ vs.length 0 (Nat.zero_add _) (by exact fun _ k=>k (.refl ..) (by rfl') ([]) rfl .nil)
 ·rintro i acc l' V' L - - - -
  exact aE (af ((L1.trans L).at0 i2)) i
 ·rintro i w acc l' V' hv R hR L y1 rs rfl hr
  refine be (Paired.get i3 hv) fun z0 ht zr=>?_;refine dl zr fun qa tv z4 g2 g4=>?_;obtain⟨x,t⟩:=z0;subst z4
  have R:=(L1.trans L).ro
  refine dp (af (R _ _ g2)) rfl rfl ?_
  ac_rfl
  refine⟨bW rfl,fun qb V2 L2 hqb h2=>?_⟩
  refine⟨by rw[hr.length,List.length_map,List.length_take];exact sz (by lia),(hR _ _ _ _ fun _ k=>k (L.trans L2) (by rfl') (rs++ [.ref qb]) rfl ?_)⟩
  rw[am ht,List.map_append]
  exact Paired.snoc' (Paired.imp (fun _ _ q=>q.mono L2.ro) hr) ⟨qb,tv,sa,rfl,h2,(g4.mono R).mono L2.ro,(L.trans L2).ro _ _ hsa⟩
 ·rintro acc l' V' L y1 rs rfl hr
  rw[show bs.take vs.length=bs from List.take_of_length_le (by rw[i3.length];exact Nat.le_refl _)]at hr
  refine⟨_,rfl,fun la V4 L4 hla h4=>?_⟩
  ac_rfl
  have L14:=L1.trans (L.trans L4)
  refine ao (i1.mono L14.ro) KT (aM _) (bI _) rfl i4.hand ?_
  ac_rfl
  refine⟨bW rfl,fun fs V5 L5 hfs f1=>?_⟩
  ac_rfl
  refine⟨bW rfl,fun fq V6 L6 hfq f2=>?_⟩
  ac_rfl
  refine⟨bW rfl,fun fl V7 L7 hfl f3=>?_⟩
  have L57:=L5.trans (L6.trans L7)
  have hrl:rs.length<=100:=by rw[hr.length,List.length_map];exact hl
  refine dW (af (L57.ro _ _ h4)) (af f3) (by simp;lia) fun ja hja=>?_
  have L8:Le [] V7 (V7.set ja (.list (rs++ [.ref fq]))):= .new hja
  ac_rfl
  refine⟨[ja],h _ _ (aR (L14.trans (L57.trans L8)) ?_) ⟨ja,_,rfl,aN List.mem_cons_self (aj ..) rfl,Paired.snoc' (Paired.imp (fun _ _ q=>(((q.mono L4.ro).mono L57.ro).mono L8.ro).mono (aD _ _)) hr) ⟨fq,bv,fs,rfl,aD _ _ _ _ ((L7.trans L8).ro _ _ f2),((i4.mono L14.ro).mono (L57.trans L8).ro).mono (aD _ _),aD _ _ _ _ ((L6.trans (L7.trans L8)).ro _ _ f1)⟩⟩⟩
  simp only[List.mem_singleton,forall_eq]
  exact .inl ((L14.trans L57).none0 hja nn)
set_option maxHeartbeats 1000000 in
theorem xR(KT:HK c){v ev ov:Value}{a:Addr}{x:Str}{vs:List Value}{e:ai}{alts:List (Int×ai)}{o:Option ai}(i1:IA V v 282 [("value",ev),("name",.str x 0),("alts",.ref a),("other",ov)])(ie:Rp n V ev e)(i2:V a=some (.ro (.list vs)))(i3:PySem.Paired (ru n V) vs alts)(i5:match o with|none=>ov= .none|some t=>Rp n V ov t)(hl:alts.length<=100)(h:∀w V',Le [] V V'->xN n V' w (fL (.case e x alts o))->Q w V'):ab c 2 (.ref 272) [v] V Q:=by
 refine ab.frz (cZ (x0:="self") KT ?_)
 intro env K
 try dsimp only at K
 let F:I2:=fun l1 V1 G=>Le [] V V1->Lk l1 "self" v->∀fa rs,Lk l1 "found" (.ref fa)->V fa=none->V1 fa=some (.list rs)->PySem.Paired (tF n V1) rs [(e,[])]->G
 refine aC F ?_ ?_
 ·intro _ _
  walk_at "goT"
  refine ao i1 KT (aK _) (cC _) rfl ie.hand ?_
  walk_at "goT"
  refine⟨bW rfl,fun fs V1 L1 hfs f1=>?_⟩
  walk_at "goT"
  refine⟨bW rfl,fun fq V2 L2 hfq f2=>?_⟩
  walk_at "goT"
  have L12:=L1.trans L2
  refine⟨bW rfl,fun fa hfa=>?_⟩
  have L3:Le [] V2 (V2.set fa (.list [.ref fq])):= .new hfa
  walk_at "goT"
  exact(fun _ k=>k (L12.trans L3) (by rfl') fa ([.ref fq]) (by rfl') (L12.none0 hfa nn) (aj ..) (.cons ⟨fq,ev,fs,rfl,L3.ro _ _ f2,ie.mono (L12.trans L3).ro,(L2.trans L3).ro _ _ f1⟩ .nil))
 rintro l1 V1 L1 b1 fa rs0 b2 hfa0 hfa1 hr0
 let F:I2:=fun l2 V2 G=>Le [] V V2->Lk l2 "self" v->Lk l2 "found" (.ref fa)->∀rs,V2 fa=some (.list rs)->PySem.Paired (tF n V2) rs ((e,[])::eA 0 alts)->G
 refine aC F ?_ ?_
 ·intro _ _
  walk_at "goT"
  refine ao (i1.mono L1.ro) KT (aK _) (bZ _) rfl rfl ?_
  have hvl:=i3.length
  walk_at "goT"
  refine cg (.inl (af (L1.ro _ _ i2))) (by exact bC (Nat.le_of_eq hvl) hl) ?_
  walk_at "goT"
  refine eH fun ra hra=>?_
  have LR:Le [] V1 (V1.set ra (.range (vs.length:Nat))):= .new hra
  have hrf:fa≠ra:=fun q=>by rw[←q,hfa1]at hra;cases hra
  refine⟨_,dh (n:=vs.length) (af (aj ..)) (by exact bC (Nat.le_of_eq hvl) hl),?_⟩
  let F:I3:=fun i l' V' G=>Le [] V V'->Lk l' "self" v->Lk l' "found" (.ref fa)->∀rs,V' fa=some (.list rs)->PySem.Paired (tF n V') rs ((e,[])::eA 0 (alts.take i))->G
  refine cW ((List.range vs.length).map fun(j:Nat)=>Value.int (j:Int) 0) F ?_ ?_ ?_ ((List.range vs.length).map fun(j:Nat)=>Value.int (j:Int) 0).length 0 (Nat.zero_add _) (by exact fun _ κ=>κ (L1.trans LR) (by rfl') (by rfl') rs0 (by rw[aA _ _ hrf];exact hfa1) (Paired.imp (fun _ _ q=>q.mono LR.ro) hr0))
  ·rintro i l' V' _ _ _ _ _ _
   exact dH vs.length i
  ·rintro i z l' V' hz _ _ L y1 y2 rs hfa hr
   obtain⟨hi,rfl⟩:i<vs.length/\z= .int (i:Int) 0:=by
    rw[List.getElem?_map]at hz
    induction hq:(List.range vs.length)[i]? with
    |none=>rw[hq]at hz;cases hz
    |some j=>
     rw[hq]at hz
     obtain⟨h1,h2⟩:=List.getElem?_eq_some_iff.mp hq
     rw[List.length_range]at h1
     rw[List.getElem_range]at h2
     subst h2
     exact⟨h1,(Option.some.inj hz).symm⟩
   obtain⟨av,hav⟩:∃av,vs[i]? =some av:=⟨_,List.getElem?_eq_getElem hi⟩
   obtain⟨p,ht,ka,na,bv,g1,g2,g3,g4⟩:=Paired.get i3 hav
   walk_at "goT"
   refine dT hfa ⟨trivial,?_⟩
   walk_at "goT"
   refine ao (i1.mono L.ro) KT (aK _) (bZ _) rfl rfl ?_
   walk_at "goT"
   refine⟨aL (af (L.ro _ _ i2)),aP (i:=i) (.inl (af (L.ro _ _ i2))) rfl hav (by exact gi hi (Nat.le_of_eq hvl) hl) ?_⟩
   refine ao (g1.mono L.ro) KT (bV _) (du _) rfl g4.hand ?_
   walk_at "goT"
   refine jY ?_
   walk_at "goT"
   refine⟨bW rfl,fun sa V2 L2 hsa h2=>?_⟩
   walk_at "goT"
   refine⟨bW rfl,fun qa V3 L3 hqa h3=>?_⟩
   have L23:=L2.trans L3
   have hfa3:=L23.at0 hfa
   have hrl:rs.length<=200:=by rw[hr.length,List.length_cons,iy,List.length_take];exact Nat.le_trans (Nat.succ_le_succ (jV hl)) (Nat.le_of_ble_eq_true rfl)
   walk_at "goT"
   refine dU hfa3 (sz (by lia)) ?_
   walk_at "goT"
   have RT:=cj (o':= .list (rs++ [.ref qa])) hfa3 rfl
   have hLe:Le [] V (V3.set fa (.list (rs++ [.ref qa]))):=(L.trans L23).touch hfa0 hfa3 rfl
   refine(fun _ κ=>κ hLe (by rfl') (by rfl') (rs++ [.ref qa]) (aj ..) (?_))
   rw[am ht,mf]
   refine Paired.snoc' (ys:=(e,[])::eA 0 (alts.take i)) (Paired.imp (fun _ _ q=>(q.mono L23.ro).mono RT) hr) ⟨qa,bv,sa,rfl,RT _ _ h3,((g4.mono L.ro).mono L23.ro).mono RT,?_⟩
   rw[RT _ _ (L3.ro _ _ h2)]
   have:(alts.take i).length=i:=by rw[List.length_take];exact Nat.min_eq_left (Nat.le_trans (Nat.le_of_lt hi) (Nat.le_of_eq hvl))
   rw[this,Nat.zero_add];rfl
  ·rintro l' V' L y1 y2 rs hfa hr
   rw[List.length_map,List.length_range]at hr
   rw[show alts.take vs.length=alts from List.take_of_length_le (by rw[i3.length];exact Nat.le_refl _)]at hr
   walk_at "goT"
   exact(fun _ k=>k L y1 y2 rs hfa hr)
 rintro l2 V2 L2 d1 d2 rs hfa hr
 have hrl:rs.length<=200:=by rw[hr.length,List.length_cons,iy];exact bK hl
 walk_at "goT"
 refine ao (i1.mono L2.ro) KT (aK _) (bg _) rfl (by cases o with|none=>rw[show ov= .none from i5];rfl|some t=>exact Rp.hand (n:=n) i5) ?_
 walk_at "goT"
 refine gZ (by cases o with|none=>(rw[show ov= .none from i5];exact fun id q=>by cases q) |some t=>exact Rp.plain (n:=n) i5) ?_
 nofun
 induction o with
 |none=>
  rw[show ov= .none from i5,if_pos (show(Value.none==Value.none)=true from rfl)]
  walk_at "goT"
  refine⟨[fa],h _ _ (aR L2 (by simpa using hfa0)) ⟨fa,rs,rfl,aN List.mem_cons_self hfa rfl,?_⟩⟩
  show PySem.Paired _ rs (((e,[])::eA 0 alts)++ [])
  rw[List.append_nil]
  exact Paired.imp (fun _ _ q=>q.mono (aD _ _)) hr
 |some t=>
  have g4:Rp n V ov t:=i5
  rw[g4.notNone,if_neg (by decide)]
  walk_at "goT"
  refine ao (i1.mono L2.ro) KT (aK _) (bg _) rfl g4.hand ?_
  walk_at "goT"
  refine⟨bW rfl,fun fs V5 L5 hfs f1=>?_⟩
  walk_at "goT"
  refine⟨bW rfl,fun fq V6 L6 hfq f2=>?_⟩
  walk_at "goT"
  refine⟨bW rfl,fun fl hfl=>?_⟩
  have L7:Le [] V6 (V6.set fl (.list [.ref fq])):= .new hfl
  have L57:=L5.trans (L6.trans L7)
  refine dW (af (L57.at0 hfa)) (af (aj ..)) (by simp;lia) fun ja hja=>?_
  have L8:Le [] (V6.set fl (.list [.ref fq])) ((V6.set fl (.list [.ref fq])).set ja (.list (rs++ [.ref fq]))):= .new hja
  walk_at "goT"
  refine⟨[ja],h _ _ (aR (L2.trans (L57.trans L8)) ?_) ⟨ja,_,rfl,aN List.mem_cons_self (aj ..) rfl,Paired.snoc' (ys:=(e,[])::eA 0 alts) (Paired.imp (fun _ _ q=>((q.mono L57.ro).mono L8.ro).mono (aD _ _)) hr) ⟨fq,ov,fs,rfl,aD _ _ _ _ ((L7.trans L8).ro _ _ f2),((g4.mono L2.ro).mono (L57.trans L8).ro).mono (aD _ _),aD _ _ _ _ ((L6.trans (L7.trans L8)).ro _ _ f1)⟩⟩⟩
  simp only[List.mem_singleton,forall_eq]
  exact .inl ((L2.trans L57).none0 hja nn)
end
def Cq:ai->Prop
 | .prim _ as=>as.length<=4
 | .con _ as=>as.length<=4
 | .app _ as=>as.length<=4
 | .lam ps _=>ps.length<=4
 | .case _ _ al _=>al.length<=4
 | .letn bs _ _=>bs.length<=4
 |_=>True
theorem vF{n:Nat}{h1 h2:Kv}{t1 t2:ai}(h:AL (n+1) h1 h2 t1 t2):bh t1=bh t2/\Cq t1/\Cq t2:=by
 induction t1 using ai.cs<;>induction t2 using ai.cs<;>first|exact h.elim|skip
 ·exact⟨rfl,trivial,trivial⟩
 ·exact⟨rfl,trivial,trivial⟩
 ·exact⟨rfl,h.2.1,(show _<=4 by rw[←h.2.2.length];exact h.2.1)⟩
 ·exact⟨rfl,h.2.1,(show _<=4 by rw[←h.2.2.length];exact h.2.1)⟩
 ·exact⟨rfl,h.2.1,(show _<=4 by rw[←h.1];exact h.2.1)⟩
 ·exact⟨rfl,h.1,(show _<=4 by rw[←h.2.2.length];exact h.1)⟩
 ·exact⟨rfl,h.1,(show _<=4 by rw[←(h.2.2 0).1.length];exact h.1)⟩
 ·exact⟨rfl,h.2.2.1,(show _<=4 by rw[←h.2.1];exact h.2.2.1)⟩
noncomputable def iD(p:Int×ai):PyData:= .tuple [.str "lit",.str "int",.int p.1]
theorem xS:PyData.strOk "lit"=true:=by decide+kernel
theorem sC:PyData.strOk "int"=true:=by decide+kernel
theorem jp:∀al:List (Int×ai),PyData.canLayAll0 (al.map iD)=true
 | []=>rfl
 |a::r=>by
  rw[List.map_cons]
  show(PyData.canLay0 (iD a)&&PyData.canLayAll0 (r.map iD))=true
  rw[jp r,Bool.and_true]
  show(PyData.strOk "lit"&&(PyData.strOk "int"&&true))=true
  rw[xS,sC];rfl
theorem mh:∀al:List (Int×ai),PyData.depthAll (al.map iD)<=1
 | []=>Nat.zero_le _
 |a::r=>by
  rw[List.map_cons]
  show max (PyData.depth (iD a)) (PyData.depthAll (r.map iD))<=1
  have:=mh r
  have h2:PyData.depth (iD a)=1:=rfl
  exact Nat.max_le.mpr ⟨Nat.le_of_eq h2,this⟩
theorem xT{R:Int×ai->Int×ai->Prop}(hR:∀p q,R p q->p.1=q.1){al al':List (Int×ai)}(h:PySem.Paired R al al'):al.map iD=al'.map iD:=by
 induction h with
 |nil=>rfl
 |cons a _ ih=>rw[List.map_cons,List.map_cons,ih];unfold iD;rw[hR _ _ a]
theorem nP{n:Nat}{V:St}:∀{vs:List Value} {al:List (Int×ai)},PySem.Paired (fun v (p:Int×ai)=>∃ka,v= .ref ka/\V ka=some (.ro (.tup [.str "lit" 0,.str "int" 0,.int p.1 0]))) vs al->kY V vs (al.map iD):=by
 intro vs al p
 induction p with
 |nil=>exact .nil
 |cons a r ih=>refine be a fun ka e h=>?_;subst e;exact .cons (.tup (af h) (.cons (.str _) (.cons (.str _) (.cons (.int _) .nil)))) ih
section
variable{c:Cx}{d n:Nat}{env:Env}{l:au}{V:St}{p pos:Pos}{Q:Value->St->Prop}{QB:Bool->St->Prop}{QF:Fl->au->St->Prop}{QL:au->St->Prop}{ns:List (Str×NameKind)}
theorem Ce{k:Addr}{i:Int}(h:V k=some (.ro (.tup [.str "int" 0,.int i 0]))):g9 V (.ref k) (.tuple [.str "int",.int i]):= .tup (af h) (.cons (.str _) (.cons (.int _) .nil))
theorem mi(i:Int):(PyData.tuple [.str "int",.int i]).canLay0=true:=by show(PyData.strOk "int"&&true)=true;rw[sC];rfl
set_option maxHeartbeats 2000000 in
theorem qz(KT:HK c){m k:Nat}{v1 v2:Value}{t1 t2:ai}{e1 e2:Kv}(h1:Rp (n+1) V v1 t1)(h2:Rp (m+1) V v2 t2)(ha:AL (k+1) e1 e2 t1 t2)(h:∀V',Le [] V V'->Q (.bool true) V'):ab c 3 (.ref 571) [v1,v2] V Q:=by
 refine eC (x0:="one") (x1:="other") KT ?_
 intro env K
 try dsimp only at K
 have hsm:=vF ha
 walk_at "goT"
 induction t1 using ai.cs<;>induction t2 using ai.cs<;>first|exact ha.elim|skip
 ·refine az (b:=false) KT h1 rfl rfl ?_
  walk_at "goT"
  refine⟨bW rfl,fun ta V1 L1 hta ht=>?_⟩
  refine⟨_,kD (af ht),?_⟩
  have g1:=h1.mono L1.ro
  have g2:=h2.mono L1.ro
  refine dn (r:=some (.ref 59)) (iQ (af ht) 0) ?_
  walk_at "goT"
  refine az (b:=true) KT g1 rfl rfl ?_
  walk_at "goT"
  refine az (b:=true) KT g2 rfl rfl ?_
  walk_at "goT"
  exact h _ L1
 ·refine az (b:=true) KT h1 rfl rfl ?_
  walk_at "goT"
  refine az (b:=true) KT h2 rfl rfl ?_
  walk_at "goT"
  refine ao (Rp.lit_ia h1) KT (dX _) (fS _) rfl rfl ?_
  walk_at "goT"
  refine ao (Rp.lit_ia h1) KT (dX _) (fk _) rfl rfl ?_
  walk_at "goT"
  refine⟨bW rfl,fun ta V1 L1 hta f1=>?_⟩
  walk_at "goT"
  refine ao ((Rp.lit_ia h2).mono L1.ro) KT (dX _) (fS _) rfl rfl ?_
  walk_at "goT"
  refine ao ((Rp.lit_ia h2).mono L1.ro) KT (dX _) (fk _) rfl rfl ?_
  walk_at "goT"
  refine⟨bW rfl,fun tb V2 L2 htb f2=>?_⟩
  refine ua (Ce (L2.ro _ _ f1)) (Ce f2) (mi _) (mi _) (Nat.le_trans (Nat.min_le_left _ _) (by show 1<=_;lia)) ?_
  rw[show∀a b:Int,a=b->PyData.eqv (.tuple [.str "int",.int a]) (.tuple [.str "int",.int b])=true from fun a b e=>by subst e;exact SeqAt.eqv_refl _ (mi _)]
  ·walk_at "goT"
   exact h _ (L1.trans L2)
  ·exact ha
 ·refine dl (id h1) fun a vs i1 i2 i3=>?_
  refine dl (id h2) fun b ws j1 j2 j3=>?_
  refine az (b:=false) KT h1 rfl rfl ?_
  walk_at "goT"
  refine az (b:=true) KT h1 rfl rfl ?_
  walk_at "goT"
  refine az (b:=true) KT h2 rfl rfl ?_
  walk_at "goT"
  refine ao i1 KT (cn _) (dO _) rfl rfl ?_
  walk_at "goT"
  refine ao j1 KT (cn _) (dO _) rfl rfl ?_
  refine iH ?_
  rw[beq_iff_eq.mpr ha.1]
  walk_at "goT"
  exact h _ (.refl ..)
 ·refine dl (id h1) fun a vs i1 i2 i3=>?_
  refine dl (id h2) fun b ws j1 j2 j3=>?_
  refine az (b:=false) KT h1 rfl rfl ?_
  walk_at "goT"
  refine az (b:=true) KT h1 rfl rfl ?_
  walk_at "goT"
  refine az (b:=true) KT h2 rfl rfl ?_
  walk_at "goT"
  refine ao i1 KT (dk _) (dN _) rfl rfl ?_
  walk_at "goT"
  refine ao j1 KT (dk _) (dN _) rfl rfl ?_
  refine iH ?_
  rw[beq_iff_eq.mpr ha.1]
  walk_at "goT"
  exact h _ (.refl ..)
 ·refine az (b:=false) KT h1 rfl rfl ?_
  walk_at "goT"
  refine⟨bW rfl,fun ta V1 L1 hta ht=>?_⟩
  refine⟨_,kD (af ht),?_⟩
  have g1:=h1.mono L1.ro
  have g2:=h2.mono L1.ro
  refine dn (r:=some (.ref 59)) (iQ (af ht) 0) ?_
  walk_at "goT"
  refine az (b:=false) KT g1 rfl rfl ?_
  walk_at "goT"
  refine dn (r:=some (.ref 141)) (iQ (af ht) 1) ?_
  walk_at "goT"
  refine az (b:=false) KT g1 rfl rfl ?_
  walk_at "goT"
  refine dn (r:=some (.ref 183)) (iQ (af ht) 2) ?_
  walk_at "goT"
  refine az (b:=true) KT g1 rfl rfl ?_
  walk_at "goT"
  refine az (b:=true) KT g2 rfl rfl ?_
  walk_at "goT"
  exact h _ L1
 ·refine az (b:=false) KT h1 rfl rfl ?_
  walk_at "goT"
  refine⟨bW rfl,fun ta V1 L1 hta ht=>?_⟩
  refine⟨_,kD (af ht),?_⟩
  have g1:=h1.mono L1.ro
  have g2:=h2.mono L1.ro
  refine dn (r:=some (.ref 59)) (iQ (af ht) 0) ?_
  walk_at "goT"
  refine az (b:=false) KT g1 rfl rfl ?_
  walk_at "goT"
  refine dn (r:=some (.ref 141)) (iQ (af ht) 1) ?_
  walk_at "goT"
  refine az (b:=true) KT g1 rfl rfl ?_
  walk_at "goT"
  refine az (b:=true) KT g2 rfl rfl ?_
  walk_at "goT"
  exact h _ L1
 ·refine rO (id h1) fun ev a avs ov i1 i2 i3 i4 i5=>?_
  refine rO (id h2) fun fv b bvs pv j1 j2 j3 j4 j5=>?_
  refine az (b:=false) KT h1 rfl rfl ?_
  walk_at "goT"
  refine az (b:=true) KT h1 rfl rfl ?_
  walk_at "goT"
  rename_i t x al o t' x' al' o'
  have hoo:=(ha.2.2 0).2
  have ho1:(ov== .none)=o.isNone:=by
   induction o with
   |none=>rw[show ov= .none from i5];rfl
   |some u=>exact Rp.notNone (n:=n) i5
  have ho2:(pv== .none)=o'.isNone:=by
   induction o' with
   |none=>rw[show pv= .none from j5];rfl
   |some u=>exact Rp.notNone (n:=m) j5
  have ho3:o.isNone=o'.isNone:=by
   induction o<;>cases o'<;>first|rfl|exact hoo.elim
  walk_at "goT"
  refine az (b:=true) KT h2 rfl rfl ?_
  walk_at "goT"
  refine ao i1 KT (aK _) (bg _) rfl (by cases o with|none=>rw[show ov= .none from i5];rfl|some t=>exact Rp.hand (n:=n) i5) ?_
  walk_at "goT"
  refine gZ (by cases o with|none=>(rw[show ov= .none from i5];exact fun id q=>by cases q) |some t=>exact Rp.plain (n:=n) i5) ?_
  walk_at "goT"
  refine ao j1 KT (aK _) (bg _) rfl (by cases o' with|none=>rw[show pv= .none from j5];rfl|some t=>exact Rp.hand (n:=m) j5) ?_
  walk_at "goT"
  refine gZ (by cases o' with|none=>(rw[show pv= .none from j5];exact fun id q=>by cases q) |some t=>exact Rp.plain (n:=m) j5) ?_
  refine BA ?_
  rw[ho1,ho2,ho3,bne_self_eq_false]
  ac_rfl
  refine ao i1 KT (aK _) (bZ _) rfl rfl ?_
  refine⟨_,ax (af i3),fun cenv CK=>?_⟩
  let F:I4:=fun i acc l' V' G=>Le [] V V'->∀rs,acc= .l rs->(PySem.Paired (fun v (p:Int×ai)=>∃ka,v= .ref ka/\V' ka=some (.ro (.tup [.str "lit" 0,.str "int" 0,.int p.1 0]))) rs (al.take i))->G
  refine aq avs F ?_ ?_ ?_ avs.length 0 (Nat.zero_add _) (by exact fun _ k=>k (.refl ..) ([]) rfl .nil)
  ·rintro i acc l' V' L - - -
   exact aE (af (L.at0 i3)) i
  ·rintro i w acc l' V' hv R hR L rs rfl hr
   obtain⟨p,ht,ka,na,bv,g1,g2,g3,g4⟩:=Paired.get i4 hv
   have R:=L.ro
   have hal:rs.length<=4:=by have:=hsm.2.1;rw[hr.length,List.length_take];have q:al.length<=4:=this;lia
   ac_rfl
   refine ao (g1.mono R) KT (bV _) (dq _) rfl rfl ?_
   refine⟨sz (by lia),(hR _ _ _ _ fun _ k=>k L (rs++ [.ref ka]) rfl ?_)⟩
   rw[am ht]
   exact Paired.snoc' hr ⟨ka,rfl,R _ _ g2⟩
  ·rintro acc l' V' L rs rfl hr
   rw[show al.take avs.length=al from List.take_of_length_le (by rw[i4.length];exact Nat.le_refl _)]at hr
   refine⟨rs,rfl,fun la V1 L1 hla f1=>?_⟩
   ac_rfl
   have L01:=L.trans L1
   refine ao (j1.mono L01.ro) KT (aK _) (bZ _) rfl rfl ?_
   refine⟨_,ax (af (L01.at0 j3)),fun cenv CK=>?_⟩
   let F:I4:=fun i acc l' V' G=>Le [] V1 V'->∀rs,acc= .l rs->(PySem.Paired (fun v (p:Int×ai)=>∃ka,v= .ref ka/\V' ka=some (.ro (.tup [.str "lit" 0,.str "int" 0,.int p.1 0]))) rs (al'.take i))->G
   refine aq bvs F ?_ ?_ ?_ bvs.length 0 (Nat.zero_add _) (by exact fun _ k=>k (.refl ..) ([]) rfl .nil)
   ·rintro i acc l' V' L' - - -
    exact aE (af (L'.at0 (L01.at0 j3))) i
   ·rintro i w acc l' V' hv R hR L' rs rfl hr
    obtain⟨p,ht,ka,na,bv,g1,g2,g3,g4⟩:=Paired.get j4 hv
    have R:=(L01.trans L').ro
    have hal:rs.length<=4:=by have:=hsm.2.2;rw[hr.length,List.length_take];have q:al'.length<=4:=this;lia
    ac_rfl
    refine ao (g1.mono R) KT (bV _) (dq _) rfl rfl ?_
    refine⟨sz (by lia),(hR _ _ _ _ fun _ k=>k L' (rs++ [.ref ka]) rfl ?_)⟩
    rw[am ht]
    exact Paired.snoc' hr ⟨ka,rfl,R _ _ g2⟩
   ·rintro acc l' V' L' rs2 rfl hr2
    rw[show al'.take bvs.length=al' from List.take_of_length_le (by rw[j4.length];exact Nat.le_refl _)]at hr2
    refine⟨rs2,rfl,fun lb V2 L2 hlb f2=>?_⟩
    have L12:=L'.trans L2
    have D1:g9 V2 (.ref la) (.list (al.map iD)):= .list (af (L12.ro _ _ f1)) (nP (n:=0) (Paired.imp (fun _ _ ⟨ka,e,q⟩=>⟨ka,e,L12.ro _ _ (L1.ro _ _ q)⟩) hr))
    have D2:g9 V2 (.ref lb) (.list (al'.map iD)):= .list (af f2) (nP (n:=0) (Paired.imp (fun _ _ ⟨ka,e,q⟩=>⟨ka,e,L2.ro _ _ q⟩) hr2))
    have hke:al.map iD=al'.map iD:=xT (fun _ _ q=>q.1) (ha.2.2 0).1
    refine ua D1 D2 (jp al) (jp al') (Nat.le_trans (Nat.min_le_left _ _) (by show PyData.depthAll _+1<=_;have:=mh al;exact bK this)) ?_
    rw[hke,SeqAt.eqv_refl (.list (al'.map iD)) (jp al')]
    walk_at "goT"
    exact h _ (L01.trans L12)
 ·refine ku (id h1) fun a pvs bv i1 i2 i3 i4=>?_
  refine ku (id h2) fun b qvs cv j1 j2 j3 j4=>?_
  refine az (b:=false) KT h1 rfl rfl ?_
  walk_at "goT"
  refine az (b:=true) KT h1 rfl rfl ?_
  walk_at "goT"
  refine az (b:=true) KT h2 rfl rfl ?_
  walk_at "goT"
  refine ao i1 KT (aM _) (bp _) rfl rfl ?_
  walk_at "goT"
  refine ao j1 KT (aM _) (bp _) rfl rfl ?_
  refine Bz ?_
  rw[beq_iff_eq.mpr ha.1]
  walk_at "goT"
  exact h _ (.refl ..)
end
noncomputable abbrev v6:=List Str×List Nat
def yE(V:St)(w:Value)(g:v6):Prop:=∃q la lb,w= .ref q/\V q=some (.ro (.tup [.ref la,.ref lb]))/\V la=some (.ro (.list (g.1.map aJ)))/\V lb=some (.ro (.list (g.2.map iV)))
theorem yE.mono{V V':St}{w:Value}{g:v6}(h:yE V w g)(L:Ro V V'):yE V' w g:=by obtain⟨q,la,lb,e,h1,h2,h3⟩:=h;exact⟨q,la,lb,e,L _ _ h1,L _ _ h2,L _ _ h3⟩
def yF(V:St)(v:Value)(gs:List v6):Prop:=∃a vs,v= .ref a/\V a=some (.ro (.list vs))/\PySem.Paired (yE V) vs gs
theorem yF.mono{V V':St}{v:Value}{gs:List v6}(h:yF V v gs)(L:Ro V V'):yF V' v gs:=by obtain⟨a,vs,e,h1,h2⟩:=h;exact⟨a,vs,e,L _ _ h1,Paired.imp (fun _ _ q=>q.mono L) h2⟩
noncomputable def gC(h:Kv)(gs:List v6)(sc:List Nat):Kv:=sc.foldl (fun h k=>eB h (gs.getD k ([],[])).1 (gs.getD k ([],[])).2) h
theorem jS:∀(zs:List (Str×Nat)) (h:Kv),(zs.foldl (fun h p=>stored h p.1 (.int (p.2:Int) 0)) h).length<=h.length+zs.length
 | [],h=>Nat.le_refl _
 |z::r,h=>by
  rw[List.foldl_cons,List.length_cons]
  have h1:=jS r (stored h z.1 (.int (z.2:Int) 0))
  have h2:=lD h z.1 (.int (z.2:Int) 0)
  exact bC h1 h2
theorem tG(h:Kv)(ps:List Str)(ks:List Nat):(eB h ps ks).length<=h.length+ps.length:=
 Nat.le_trans (jS (ps.zip ks) h) (by rw[List.length_zip];exact Nat.add_le_add_left (Nat.min_le_left _ _) _)
theorem mj{gs:List v6}(hg:∀g∈gs,g.1.length<=4):∀(sc:List Nat) (h:Kv),(gC h gs sc).length<=h.length+4*sc.length:=by
 intro zz
 induction zz with
 |nil=>
  intro h
  exact Nat.le_refl _
 |cons k r ih=>
  intro h
  show(gC (eB h (gs.getD k ([],[])).1 (gs.getD k ([],[])).2) gs r).length<=_
  have h1:=ih (eB h (gs.getD k ([],[])).1 (gs.getD k ([],[])).2)
  have h2:=tG h (gs.getD k ([],[])).1 (gs.getD k ([],[])).2
  have h3:(gs.getD k ([],[])).1.length<=4:=by
   by_cases hk:k<gs.length
   ·rw[List.getD_eq_getElem?_getD,List.getElem?_eq_getElem hk];exact hg _ (List.getElem_mem hk)
   ·rw[List.getD_eq_getElem?_getD,List.getElem?_eq_none (by exact bK (Nat.le_of_not_lt hk))];exact Nat.zero_le _
  rw[List.length_cons]
  exact gi h1 h2 h3
theorem tH(h:Kv)(gs:List v6)(sc:List Nat)(k:Nat):gC h gs (sc++ [k])=eB (gC h gs sc) (gs.getD k ([],[])).1 (gs.getD k ([],[])).2:=by
 unfold gC;rw[List.foldl_append];rfl
noncomputable def ml(h:Kv)(ps:List Str)(ks:List Nat)(j:Nat):Kv:=((ps.zip ks).take j).foldl (fun h p=>stored h p.1 (.int (p.2:Int) 0)) h
theorem rI{h:Kv}{ps:List Str}{ks:List Nat}{j:Nat}{x:Str}{k:Nat}(hx:ps[j]? =some x)(hk:ks[j]? =some k):ml h ps ks (j+1)=stored (ml h ps ks j) x (.int (k:Int) 0):=by
 unfold ml
 have:(ps.zip ks)[j]? =some (x,k):=by rw[List.getElem?_zip_eq_some];exact⟨hx,hk⟩
 rw[am this,List.foldl_append];rfl
theorem tI{h:Kv}{ps:List Str}{ks:List Nat}:ml h ps ks ps.length=eB h ps ks:=by
 unfold ml eB
 rw[List.take_of_length_le (by rw[List.length_zip];exact Nat.min_le_left _ _)]
theorem tJ(h:Kv)(ps:List Str)(ks:List Nat)(j:Nat):(ml h ps ks j).length<=h.length+ps.length:=
 Nat.le_trans (jS ((ps.zip ks).take j) h) (by rw[List.length_take,List.length_zip];exact Nat.add_le_add_left (jV (Nat.min_le_left _ _)) _)
theorem mn{k i:Nat}{z:Value}(hz:((List.range k).map fun(j:Nat)=>Value.int (j:Int) 0)[i]? =some z):i<k/\z= .int (i:Int) 0:=by
 rw[List.getElem?_map]at hz
 induction hq:(List.range k)[i]? with
 |none=>rw[hq]at hz;cases hz
 |some j=>
  rw[hq]at hz
  obtain⟨h1,h2⟩:=List.getElem?_eq_some_iff.mp hq
  rw[List.length_range]at h1
  rw[List.getElem_range]at h2
  subst h2
  exact⟨h1,(Option.some.inj hz).symm⟩
theorem rJ{xs:List Nat}{i:Nat}{v:Value}(h:(xs.map iV)[i]? =some v):∃y,xs[i]? =some y/\v= .int (y:Int) 0:=by
 rw[List.getElem?_map]at h
 induction e:xs[i]? with
 |none=>rw[e]at h;cases h
 |some z=>rw[e]at h;exact⟨z,rfl,(Option.some.inj h).symm⟩
def mq(V:St)(v:Value)(dx:Addr):Prop:=∃x,∃k:Nat,v= .ref x/\x≠dx/\V x=some (.inst 614 dx)/\V dx=some (.attr [("many",.int (k:Int) 0)])
theorem mq.keep{V V':St}{v:Value}{dx:Addr}(h:mq V v dx)(L:Le [] V V'):mq V' v dx:=by obtain⟨x,k,e,ne,h1,h2⟩:=h;exact⟨x,k,e,ne,L.at0 h1,L.at0 h2⟩
theorem mq.some{V:St}{v:Value}{dx:Addr}(h:mq V v dx):∃o,V dx=some o:=by obtain⟨_,_,_,_,_,h2⟩:=h;exact⟨_,h2⟩
theorem mq.fzs{V:St}{v:Value}{dx a:Addr}{o:cq}(h:mq V v dx)(ha:V a=Option.some o)(ho:∃vs,o= .list vs):mq (fzs V [a]) v dx:=by
 refine sI h fun x k e ne h1 h2=>?_
 refine dP ho fun vs z1=>?_;subst z1
 refine⟨x,k,e,ne,?_,?_⟩
 ·rw[gd _ (by simp only[List.mem_singleton];rintro rfl;rw[h1]at ha;cases ha)];exact h1
 ·rw[gd _ (by simp only[List.mem_singleton];rintro rfl;rw[h2]at ha;cases ha)];exact h2
section
variable{c:Cx}{d n:Nat}{env:Env}{l:au}{V:St}{p pos:Pos}{Q:Value->St->Prop}{QB:Bool->St->Prop}{QF:Fl->au->St->Prop}{QL:au->St->Prop}{ns:List (Str×NameKind)}
set_option maxHeartbeats 1000000 in
theorem nQ(KT:HK c){na sa:Addr}{gv:Value}{hh:Kv}{he:Nat}{sc:List Nat}{gs:List v6}(h1:V na=some (.ro (.dict hh he)))(h2:V sa=some (.ro (.tup (sc.map iV))))(h3:yF V gv gs)
  (hz:hh.length<=100000) (hs:sc.length<=4) (hgz:gs.length<=100) (hsg:∀k∈sc,k<gs.length) (hgl:∀g∈gs,g.1.length<=4/\g.2.length=g.1.length)
  (h:∀a ep V',Le [] V V'->V' a=some (.ro (.dict (gC hh gs sc) ep))->Q (.ref a) V'):ab c 2 (.ref 578) [.ref na,.ref sa,gv] V Q:=by
 refine ab.frz (qZ (x0:="names") (x1:="scope") (x2:="groups") KT ?_)
 intro env K
 try dsimp only at K
 refine dl h3 fun ga gvs z2 g1 g2=>?_;subst z2
 let F:I2:=fun l1 V1 G=>Le [] V V1->Lk l1 "scope" (.ref sa)->Lk l1 "groups" (.ref ga)->∀fa ep,Lk l1 "found" (.ref fa)->V fa=none->V1 fa=some (.dict hh ep)->G
 refine aC F ?_ ?_
 ·intro _ _
  walk_at "goT"
  refine oe (af h1) (sz (by lia)) fun fa ep hfa=>?_
  walk_at "goT"
  exact(fun _ k=>k (.new hfa) (by rfl') (by rfl') fa ep (by rfl') hfa (aj ..))
 rintro l1 V1 L1 b1 b2 fa ep b3 hfa0 hfa
 let F:I2:=fun l2 V2 G=>Le [] V V2->Lk l2 "found" (.ref fa)->∀ep,V2 fa=some (.dict (gC hh gs sc) ep)->G
 refine aC F ?_ ?_
 ·intro _ _
  walk_at "goT"
  refine⟨_,kD (af (L1.ro _ _ h2)),?_⟩
  let F:I3:=fun i l' V' G=>Le [] V V'->Lk l' "groups" (.ref ga)->Lk l' "found" (.ref fa)->∀ep,V' fa=some (.dict (gC hh gs (sc.take i)) ep)->G
  refine cW (sc.map iV) F ?_ ?_ ?_ (sc.map iV).length 0 (Nat.zero_add _) (by exact fun _ k=>k L1 b2 b3 ep hfa)
  ·rintro i l' V' L - - - -
   exact iQ (af (L.ro _ _ h2)) i
  ·rintro i z l' V' hz' _ _ L y1 y2 ep hf
   refine be (rJ hz') fun k hk z2=>?_;subst z2
   have hkg:=hsg k (List.mem_of_getElem? hk)
   obtain⟨gr,hgr⟩:∃gr,gs[k]? =some gr:=⟨_,List.getElem?_eq_getElem hkg⟩
   have hgD:gs.getD k ([],[])=gr:=by rw[List.getD_eq_getElem?_getD,hgr];rfl
   have hg4:=hgl gr (List.mem_of_getElem? hgr)
   obtain⟨gw,hgw,q,la,lb,rfl,q1,q2,q3⟩:=Paired.get2 g2 hgr
   have hcur:=mj (fun g hg=>(hgl g hg).1) (sc.take i) hh
   rw[List.length_take]at hcur
   have hk62:k<2^62:=by lia
   walk_at "goT"
   refine⟨aL (af (L.ro _ _ g1)),aP (i:=k) (.inl (af (L.ro _ _ g1))) rfl hgw (by lia) ?_⟩
   walk_at "goT"
   refine⟨cP (af (L.ro _ _ q1)),aP (i:=0) (.inr (.inr (af (L.ro _ _ q1)))) rfl rfl (by decide) ?_⟩
   walk_at "goT"
   refine cg (.inl (af (L.ro _ _ q2))) (by rw[List.length_map];exact bK hg4.1) ?_
   rw[List.length_map]
   walk_at "goT"
   refine eH fun ra hra=>?_
   have LR:Le [] V' (V'.set ra (.range (gr.1.length:Nat))):= .new hra
   have hrf:fa≠ra:=fun q=>by rw[←q,hf]at hra;cases hra
   refine⟨_,dh (n:=gr.1.length) (af (aj ..)) (by exact bK hg4.1),?_⟩
   let F:I3:=fun j l' V' G=>Le [] V V'->Lk l' "groups" (.ref ga)->Lk l' "found" (.ref fa)->Lk l' "number" (.int (k:Int) 0)->∀ep,V' fa=some (.dict (ml (gC hh gs (sc.take i)) gr.1 gr.2 j) ep)->G
   refine cW ((List.range gr.1.length).map fun(j:Nat)=>Value.int (j:Int) 0) F ?_ ?_ ?_ ((List.range gr.1.length).map fun(j:Nat)=>Value.int (j:Int) 0).length 0 (Nat.zero_add _) (by exact fun _ κ=>κ (L.trans LR) (by rfl') (by rfl') (by rfl') ep (by rw[aA _ _ hrf];exact hf))
   ·rintro j l' V' _ _ _ _ _ _
    exact dH _ j
   ·rintro j z l' V' hz2 _ _ L y1 y2 y3 ep hf
    refine ff (mn hz2) fun hj z1=>?_;subst z1
    obtain⟨x,hx⟩:∃x,gr.1[j]? =some x:=⟨_,List.getElem?_eq_getElem hj⟩
    obtain⟨y,hy⟩:∃y,gr.2[j]? =some y:=⟨_,List.getElem?_eq_getElem (by exact bC hj (Nat.le_of_eq hg4.2.symm))⟩
    have hx':(gr.1.map aJ)[j]? =some (aJ x):=by rw[List.getElem?_map,hx];rfl
    have hy':(gr.2.map iV)[j]? =some (iV y):=by rw[List.getElem?_map,hy];rfl
    have hbl:=tJ (gC hh gs (sc.take i)) gr.1 gr.2 j
    walk_at "goT"
    refine⟨aL (af (L.ro _ _ g1)),aP (i:=k) (.inl (af (L.ro _ _ g1))) rfl hgw (by lia) ?_⟩
    walk_at "goT"
    refine⟨cP (af (L.ro _ _ q1)),aP (i:=1) (.inr (.inr (af (L.ro _ _ q1)))) rfl rfl (by decide) ?_⟩
    walk_at "goT"
    refine⟨aL (af (L.ro _ _ q3)),aP (i:=j) (.inl (af (L.ro _ _ q3))) rfl hy' (by exact bC hj hg4.1) ?_⟩
    walk_at "goT"
    refine⟨aL (af (L.ro _ _ g1)),aP (i:=k) (.inl (af (L.ro _ _ g1))) rfl hgw (by lia) ?_⟩
    walk_at "goT"
    refine⟨cP (af (L.ro _ _ q1)),aP (i:=0) (.inr (.inr (af (L.ro _ _ q1)))) rfl rfl (by decide) ?_⟩
    walk_at "goT"
    refine⟨aL (af (L.ro _ _ q2)),aP (i:=j) (.inl (af (L.ro _ _ q2))) rfl hx' (by exact bC hj hg4.1) ?_⟩
    walk_at "goT"
    refine jb hf (sz (fQ (Nat.le_trans hbl (Nat.add_le_add (Nat.le_trans hcur (Nat.add_le_add hz (Nat.mul_le_mul_left 4 (jV hs)))) hg4.1)) rfl)) fun ep'=>?_
    walk_at "goT"
    refine(fun _ κ=>κ (L.touch hfa0 hf rfl) (by rfl') (by rfl') (by rfl') ep' (?_))
    rw[rI hx hy]
    exact aj ..
   ·rintro l' V' L y1 y2 y3 ep hf
    rw[List.length_map,List.length_range,tI]at hf
    walk_at "goT"
    refine(fun _ k=>k L y1 y2 ep ?_)
    rw[am hk,tH,hgD]
    exact hf
  ·rintro l' V' L y1 y2 ep hf
   rw[List.length_map,List.take_length]at hf
   walk_at "goT"
   exact(fun _ k=>k L y2 ep hf)
 rintro l2 V2 L2 d1 ep2 hf
 walk_at "goT"
 exact⟨[fa],h fa ep2 _ (aR L2 (by simpa using hfa0)) (aN List.mem_cons_self hf rfl)⟩
set_option maxHeartbeats 1000000 in
theorem qA(KT:HK c){sv:Value}{dx a:Addr}{g:List Str}(h1:mq V sv dx)(h2:V a=some (.ro (.list (g.map aJ))))(hl:g.length<=100)
  (h:∀w (ks:List Nat) V',Le [dx] V V'->mq V' sv dx->ks.length=g.length->yE V' w (g,ks)->Q w V'):ab c 2 (.ref 599) [sv,.ref a] V Q:=by
 refine ab.frz (eC (x0:="self") (x1:="group") KT ?_)
 intro env K
 try dsimp only at K
 refine dP h1.some fun od hod=>?_
 let F:I2:=fun l1 V1 G=>Le [] V V1->mq V1 sv dx->Lk l1 "self" sv->Lk l1 "group" (.ref a)->∀la,Lk l1 "numbers" (.ref la)->V la=none->V1 la=some (.list [])->G
 refine aC F ?_ ?_
 ·intro _ _
  walk_at "goT"
  refine⟨bW rfl,fun la hla=>?_⟩
  walk_at "goT"
  exact(fun _ k=>k (.new hla) (h1.keep (.new hla)) (by rfl') (by rfl') la (by rfl') hla (aj ..))
 rintro l1 V1 L1 m1 b1 b2 la b3 hla0 hla
 have hld:la≠dx:=fun q=>by rw[q,hod]at hla0;cases hla0
 let F:I2:=fun l2 V2 G=>Le [dx] V V2->mq V2 sv dx->Lk l2 "group" (.ref a)->Lk l2 "numbers" (.ref la)->∀ks:List Nat,ks.length=g.length->V2 la=some (.list (ks.map iV))->G
 refine aC F ?_ ?_
 ·intro _ _
  walk_at "goT"
  refine⟨_,ax (af (L1.ro _ _ h2)),?_⟩
  let F:I3:=fun i l' V' G=>Le [dx] V V'->mq V' sv dx->Lk l' "self" sv->Lk l' "group" (.ref a)->Lk l' "numbers" (.ref la)->∀ks:List Nat,ks.length=i->V' la=some (.list (ks.map iV))->G
  refine cW (g.map aJ) F ?_ ?_ ?_ (g.map aJ).length 0 (Nat.zero_add _) (by exact fun _ κ=>κ L1.nil m1 b1 b2 b3 [] rfl hla)
  ·rintro i l' V' L - - - - - - -
   exact aE (af (L.ro _ _ h2)) i
  ·rintro i z l' V' hz _ _ L ⟨x,k,rfl,ne,i1,i2⟩ y1 y2 y3 ks hks hla
   have hi:i<g.length:=by
    have:=(List.getElem?_eq_some_iff.mp hz).1
    simpa using this
   have hlx:la≠x:=fun q=>by rw[q,i1]at hla;cases hla
   walk_at "me"
   try dsimp only
   refine aG (sS ?_)
   walk_at "goT"
   refine n7 (af i1) (af i2) rfl (d8 KT (fT _)) (by rw[KT];exact fU _) rfl ?_ true
   walk_at "goT"
   refine yS ?_
   refine kC (C:=614) (dx:=dx) (af (o:= .inst 614 dx) i1) i2 (d8 KT (fT _)) (by rw[KT];exact fU _) (by simp) ?_
   have hput:eW ([("many",.int (k:Int) 0)]:List (Str×Value)) "many" (.int ((k:Int)+1) 0)=([("many",.int ((k+1:Nat):Int) 0)]:List (Str×Value)):=by
    exact nW (by decide)
   rw[hput]
   have L2:Le [dx] V' (V'.set dx (.attr [("many",.int ((k+1:Nat):Int) 0)])):= .upd List.mem_cons_self i2 (fun r q=>by cases q)
   have j1:(V'.set dx (.attr [("many",.int ((k+1:Nat):Int) 0)])) x=some (.inst 614 dx):=by rw[aA _ _ ne];exact i1
   have j2:(V'.set dx (.attr [("many",.int ((k+1:Nat):Int) 0)])) dx=some (.attr [("many",.int ((k+1:Nat):Int) 0)]):=aj ..
   have j3:(V'.set dx (.attr [("many",.int ((k+1:Nat):Int) 0)])) la=some (.list (ks.map iV)):=by rw[aA _ _ hld];exact hla
   generalize V'.set dx (.attr [("many",.int ((k+1:Nat):Int) 0)])=τ at*
   walk_at "goT"
   refine dT j3 ⟨trivial,?_⟩
   walk_at "goT"
   refine n7 (af j1) (af j2) rfl (d8 KT (fT _)) (by rw[KT];exact fU _) rfl ?_ true
   walk_at "goT"
   refine dU j3 (by rw[List.length_map,sizeLine_eq];exact gi (Nat.le_of_eq hks) hi hl) ?_
   walk_at "goT"
   have LT:Le [dx] V τ:=L.trans L2
   refine(fun _ κ=>κ (LT.touch hla0 j3 rfl) ⟨x,k+1,rfl,ne,by rw[aA _ _ hlx.symm];exact j1,by rw[aA _ _ hld.symm];exact j2⟩ (by rfl') (by rfl') (by rfl') (ks++ [k+1]) (by rw[List.length_append,hks];rfl) (?_))
   rw[List.map_append]
   exact aj ..
  ·rintro l' V' L m y1 y2 y3 ks hks hla
   rw[List.length_map]at hks
   walk_at "goT"
   exact(fun _ κ=>κ L m y2 y3 ks hks hla)
 rintro l2 V2 L2 m2 d1 d2 ks hks hla2
 walk_at "goT"
 refine⟨bW rfl,fun qa V3 L3 hqa h3=>?_⟩
 walk_at "goT"
 have hla3:=L3.at0 hla2
 refine⟨[la],h _ ks _ (aR (L2.trans L3.nil) (by simpa using .inl hla0)) ((m2.keep L3).fzs hla3 ⟨_,rfl⟩) hks ⟨qa,a,la,rfl,aD _ _ _ _ h3,aD _ _ _ _ (L3.ro _ _ (L2.ro _ _ h2)),aN List.mem_cons_self hla3 rfl⟩⟩
theorem rK{e t iter:Expr}{ifs:List Expr}{scope:Scope}{y:Str}{py sp:Pos}{ln:Nat}(K:aQ env ns)(hy:ns.lookup y=some .cell):swapsWith (.ListComp e [⟨t,iter,ifs,0⟩] scope sp) (some (.Name y py)) ln env=pure false:=by
 show(pure (env.blockKind== .function&&env.kindOf y==some .local&&py.line==sp.line&& !(scope.names.any fun(n,k)=>n==y&&(k== .local||k== .cell))):Sem Bool)=_
 rw[K.cel y hy,show((some NameKind.cell)==some NameKind.local)=false from rfl,Bool.and_false,Bool.false_and,Bool.false_and]
theorem vG{e t iter:Expr}{ifs:List Expr}{scope:Scope}{y:Str}{py sp pa:Pos}(K:aQ env ns)(hy:rY (ns.lookup y)=true)(hc:di ns scope=true)(hs:∀x,foldedSetIterable iter env x=pure x)
  (hy':ns.lookup y=some .cell)
  (h:E c d env l iter V fun v V1=>∃src,dG V1 v=some src/\∀cenv:Env,aQ cenv scope.names->eL c d cenv (.lst e) t iter ifs scope sp src 0 (.l []) (sN scope.names l) V1 fun acc V2=>∃vs,acc= .l vs/\∀a V',Le [] V2 V'->V2 a=none->V' a=some (.ro (.list vs))->QF .next (eW l y (.ref a)) V'):
  S c d env l (.Assign [.Name y py] (.ListComp e [⟨t,iter,ifs,0⟩] scope sp) pa) V QF:=
 br (qe K hc hs (h.mono fun v V1 ⟨src,e1,q⟩=>⟨src,e1,fun cenv hk=>(q cenv hk).mono fun acc V2 ⟨vs,ea,q⟩=>⟨vs,ea,fun a V' L ha h'=>ol K hy (q a V' L ha h')⟩⟩)) (rK K hy') rfl rfl
noncomputable def vH(k:Nat):PyData:= .int (k:Int)
theorem jT{V:St}:∀gs:List (List Str),kY V ((gs.map List.length).map iV) ((gs.map List.length).map vH)
 | []=> .nil
 |g::r=> .cons (.int _) (jT r)
theorem jq:∀ks:List Nat,PyData.canLayAll0 (ks.map vH)=true
 | []=>rfl
 |k::r=>by rw[List.map_cons];show(true&&_)=true;rw[jq r];rfl
theorem mr:∀ks:List Nat,PyData.depthAll (ks.map vH)=0
 | []=>rfl
 |k::r=>by rw[List.map_cons];show max 0 _=0;rw[mr r];rfl
def DN(V:St)(w:Value)(gs1 gs2:List (List Str)):Prop:=∃q a b,∃nums:List (List Nat),w= .ref q/\V q=some (.ro (.tup [.ref a,.ref b]))/\nums.map List.length=gs1.map List.length/\yF V (.ref a) (gs1.zip nums)/\yF V (.ref b) (gs2.zip nums)
set_option maxHeartbeats 1000000 in
theorem qB(KT:HK c){sv w1 w2:Value}{dx:Addr}{gs1 gs2:List (List Str)}(h1:mq V sv dx)(g1:sB V w1 gs1)(g2:sB V w2 gs2)(hgl:gs1.map List.length=gs2.map List.length)(hl:gs1.length<=100)(yd:∀g∈gs1,g.length<=4)
  (h:∀w V',Le [dx] V V'->mq V' sv dx->DN V' w gs1 gs2->Q w V'):ab c 4 (.ref 604) [sv,w1,w2] V Q:=by
 refine qZ (x0:="self") (x1:="ones") (x2:="others") KT ?_
 intro env K
 try dsimp only at K
 refine dP h1.some fun od hod=>?_
 refine dl g1 fun a1 vs1 z2 i1 i2=>?_;subst z2
 refine dl g2 fun a2 vs2 z2 j1 j2=>?_;subst z2
 have hlen:gs1.length=gs2.length:=by have:=congrArg List.length hgl;rwa [List.length_map,List.length_map]at this
 have hl42:∀g∈gs2,g.length<=4:=by
  intro g hg
  have:g.length∈gs1.map List.length:=by rw[hgl];exact List.mem_map.mpr ⟨g,hg,rfl⟩
  refine be (List.mem_map.mp this) fun g' hg' e=>?_
  rw[←e];exact yd g' hg'
 let F:I2:=fun l1 V1 G=>Le [] V V1->Lk l1 "self" sv->Lk l1 "ones" (.ref a1)->Lk l1 "others" (.ref a2)->G
 refine aC F ?_ ?_
 ·intro _ _
  ac_rfl
  refine⟨_,ax (af i1),fun cenv CK=>?_⟩
  let F:I4:=fun i acc l' V' G=>Le [] V V'->acc= .l (((gs1.take i).map List.length).map iV)->G
  refine aq vs1 F ?_ ?_ ?_ vs1.length 0 (Nat.zero_add _) (by exact fun _ k=>k (.refl ..) rfl)
  ·rintro i acc l' V' L _
   exact aE (af (L.ro _ _ i1)) i
  ·rintro i w acc l' V' hv R hR L rfl
   refine be (Paired.get i2 hv) fun g hg zr=>?_;refine be zr fun ga z3 k1=>?_;subst z3
   have hg4:=yd g (List.mem_of_getElem? hg)
   ac_rfl
   refine cg (.inl (af (L.ro _ _ k1))) (by rw[List.length_map];lia) ?_
   refine⟨by rw[List.length_map,List.length_map,List.length_take];exact sz (jV (fQ hl rfl)),(hR _ _ _ _ fun _ k=>k L ?_)⟩
   rw[am hg,List.map_append,List.map_append,List.length_map];rfl
  ·rintro acc l' V' L rfl
   rw[show gs1.take vs1.length=gs1 from List.take_of_length_le (by rw[i2.length];exact Nat.le_refl _)]
   refine⟨_,rfl,fun la V1 L1 hla f1=>?_⟩
   ac_rfl
   have L01:=L.trans L1
   refine⟨_,ax (af (L01.ro _ _ j1)),fun cenv CK=>?_⟩
   let F:I4:=fun i acc l' V' G=>Le [] V1 V'->acc= .l (((gs2.take i).map List.length).map iV)->G
   refine aq vs2 F ?_ ?_ ?_ vs2.length 0 (Nat.zero_add _) (by exact fun _ k=>k (.refl ..) rfl)
   ·rintro i acc l' V' L _
    exact aE (af ((L01.trans L).ro _ _ j1)) i
   ·rintro i w acc l' V' hv R hR L rfl
    refine be (Paired.get j2 hv) fun g hg zr=>?_;refine be zr fun ga z3 k1=>?_;subst z3
    have hg4:=hl42 g (List.mem_of_getElem? hg)
    ac_rfl
    refine cg (.inl (af ((L01.trans L).ro _ _ k1))) (by rw[List.length_map];lia) ?_
    refine⟨by rw[List.length_map,List.length_map,List.length_take];exact sz (jV (mu (Eq.symm (by have:=congrArg List.length hgl;rwa [List.length_map,List.length_map]at this)) (fQ hl rfl))),(hR _ _ _ _ fun _ k=>k L ?_)⟩
    rw[am hg,List.map_append,List.map_append,List.length_map];rfl
   ·rintro acc l' V' L2 rfl
    rw[show gs2.take vs2.length=gs2 from List.take_of_length_le (by rw[j2.length];exact Nat.le_refl _)]
    refine⟨_,rfl,fun lb V2 L3 hlb f2=>?_⟩
    have L23:=L2.trans L3
    have D1:g9 V2 (.ref la) (.list ((gs1.map List.length).map vH)):= .list (af (L23.ro _ _ f1)) (jT gs1)
    have D2:g9 V2 (.ref lb) (.list ((gs2.map List.length).map vH)):= .list (af f2) (jT gs2)
    refine ub D1 D2 (jq _) (jq _) (Nat.le_trans (Nat.min_le_left _ _) (by show PyData.depthAll _+1<=_;rw[mr];lia)) ?_
    rw[hgl,SeqAt.eqv_refl (.list _) (jq (gs2.map List.length))]
    ac_rfl
    exact(fun _ k=>k (L01.trans L23) (by rfl') (by rfl') (by rfl'))
 rintro l1 V1 L1 b1 b2 b3
 let F:I2:=fun l2 V2 G=>Le [dx] V V2->mq V2 sv dx->Lk l2 "others" (.ref a2)->∀fa rs,∀nums:List (List Nat),Lk l2 "first" (.ref fa)->V2 fa=some (.ro (.list rs))->nums.map List.length=gs1.map List.length->PySem.Paired (yE V2) rs (gs1.zip nums)->G
 refine aC F ?_ ?_
 ·intro _ _
  refine' vG K ?k2 ?k3 ?k4 ?k5 ?hh
  case k2=>kernel_rfl
  case k3=>kernel_rfl
  case k4=>(intro x;rfl)
  case k5=>kernel_rfl
  ac_rfl
  refine⟨_,ax (af (L1.ro _ _ i1)),fun cenv CK=>?_⟩
  let F:I4:=fun i acc l' V' G=>Le [dx] V V'->mq V' sv dx->Lk l' "self" sv->∀rs,∀nums:List (List Nat),acc= .l rs->nums.map List.length=(gs1.take i).map List.length->PySem.Paired (yE V') rs ((gs1.take i).zip nums)->G
  refine aq vs1 F ?_ ?_ ?_ vs1.length 0 (Nat.zero_add _) (by exact fun _ κ=>κ L1.nil (h1.keep L1) (by rfl') [] [] rfl rfl .nil)
  ·rintro i acc l' V' L - - - - - - -
   exact aE (af (L.ro _ _ i1)) i
  ·rintro i w acc l' V' hv R hR L m y1 rs nums rfl hn hr
   refine be (Paired.get i2 hv) fun g hg zr=>?_;refine be zr fun ga z3 k1=>?_;subst z3
   have hg4:=yd g (List.mem_of_getElem? hg)
   have hnl:nums.length=(gs1.take i).length:=by have:=congrArg List.length hn;rwa [List.length_map,List.length_map]at this
   ac_rfl
   refine sI (id m) fun x k e ne p1 p2=>?_
   subst e
   refine kS (af p1) (af p2) rfl (d8 KT (fT _)) (by rw[KT];exact kf _) (by rw[KT];exact kg _) ⟨bJ KT (zo _),?_⟩
   ac_rfl
   refine ab.at (qA KT m (L.ro _ _ k1) (by lia) fun w' ks V2 L2 m2 hks hp=>?_) (by lia)
   refine⟨by rw[hr.length,List.length_zip,List.length_take];exact sz (yc (jV (fQ hl rfl))),(hR _ _ _ _ fun _ κ=>κ (L.trans L2) m2 (by rfl') (rs++ [w']) (nums++ [ks]) rfl (?_) (?_))⟩
   ·rw[am hg,List.map_append,List.map_append,hn,List.map_cons,List.map_nil,List.map_cons,List.map_nil,hks]
   ·rw[am hg,List.zip_append hnl.symm]
    exact Paired.snoc' (Paired.imp (fun _ _ q=>q.mono L2.ro) hr) hp
  ·rintro acc l' V' L m y1 rs nums rfl hn hr
   rw[show gs1.take vs1.length=gs1 from List.take_of_length_le (by rw[i2.length];exact Nat.le_refl _)]at hn hr
   refine⟨_,rfl,fun la V2 L2 hla f1=>?_⟩
   ac_rfl
   exact(fun _ κ=>κ (L.trans L2.nil) (m.keep L2) (by rfl') la rs nums (by rfl') f1 hn (Paired.imp (fun _ _ q=>q.mono L2.ro) hr))
 rintro l2 V2 L2 m2 d1 fa rs nums d2 hfa hn hr
 have hnl:nums.length=gs1.length:=by have:=congrArg List.length hn;rwa [List.length_map,List.length_map]at this
 ac_rfl
 have hj1:=L2.ro _ _ j1
 have hvl:=j2.length
 refine cg (.inl (af hj1)) (by exact gi (Nat.le_of_eq hvl) (Nat.le_of_eq hlen.symm) hl) ?_
 ac_rfl
 refine eH fun ra hra=>?_
 have LR:Le [] V2 (V2.set ra (.range (vs2.length:Nat))):= .new hra
 refine⟨_,dh (n:=vs2.length) (af (aj ..)) (by exact gi (Nat.le_of_eq hvl) (Nat.le_of_eq hlen.symm) hl),fun cenv CK=>?_⟩
 let F:I4:=fun i acc l' V' G=>Le [] V2 V'->Lk l' "others" (.ref a2)->Lk l' "first" (.ref fa)->∀us,acc= .l us->PySem.Paired (yE V') us ((gs2.zip nums).take i)->G
 refine aq ((List.range vs2.length).map fun(j:Nat)=>Value.int (j:Int) 0) F ?_ ?_ ?_ ((List.range vs2.length).map fun(j:Nat)=>Value.int (j:Int) 0).length 0 (Nat.zero_add _) (by exact fun _ κ=>κ LR (by rfl') (by rfl') [] rfl .nil)
 ·rintro i acc l' V' _ _ _ _ _ _
  exact dH _ i
 ·rintro i z acc l' V' hz R hR L y1 y2 us rfl hu
  refine ff (mn hz) fun hi z1=>?_;subst z1
  obtain⟨w2,hw2⟩:∃w2,vs2[i]? =some w2:=⟨_,List.getElem?_eq_getElem hi⟩
  refine be (Paired.get j2 hw2) fun g hg zr=>?_;refine be zr fun gb z3 k1=>?_;subst z3
  obtain⟨ks,hks⟩:∃ks,nums[i]? =some ks:=⟨_,List.getElem?_eq_getElem (by exact kI hi (Nat.le_of_eq hvl) (Nat.le_of_eq hlen.symm) (Nat.le_of_eq hnl.symm))⟩
  obtain⟨g0,hg0⟩:∃g0,gs1[i]? =some g0:=⟨_,List.getElem?_eq_getElem (by exact gi hi (Nat.le_of_eq hvl) (Nat.le_of_eq hlen.symm))⟩
  have hz1:(gs1.zip nums)[i]? =some (g0,ks):=by rw[List.getElem?_zip_eq_some];exact⟨hg0,hks⟩
  have hz2:(gs2.zip nums)[i]? =some (g,ks):=by rw[List.getElem?_zip_eq_some];exact⟨hg,hks⟩
  obtain⟨rw',hrw,q,la,lb,rfl,q1,q2,q3⟩:=Paired.get2 hr hz1
  have R:=L.ro
  ac_rfl
  refine⟨aL (af (R _ _ hj1)),aP (i:=i) (.inl (af (R _ _ hj1))) rfl hw2 (by exact kI hi (Nat.le_of_eq hvl) (Nat.le_of_eq hlen.symm) hl) ?_⟩
  ac_rfl
  refine⟨aL (af (R _ _ hfa)),aP (i:=i) (.inl (af (R _ _ hfa))) rfl hrw (by exact kI hi (Nat.le_of_eq hvl) (Nat.le_of_eq hlen.symm) hl) ?_⟩
  ac_rfl
  refine⟨cP (af (R _ _ q1)),aP (i:=1) (.inr (.inr (af (R _ _ q1)))) rfl rfl (by decide) ?_⟩
  ac_rfl
  refine⟨bW rfl,fun qa V3 L3 hqa h3=>?_⟩
  refine⟨by rw[hu.length,List.length_take,List.length_zip];exact sz (jV (yc (mu hlen.symm (fQ hl rfl)))),(hR _ _ _ _ fun _ κ=>κ (L.trans L3) (by rfl') (by rfl') (us++ [.ref qa]) rfl (?_))⟩
  rw[am hz2]
  exact Paired.snoc' (Paired.imp (fun _ _ q=>q.mono L3.ro) hu) ⟨qa,gb,lb,rfl,h3,L3.ro _ _ (R _ _ (L2.ro _ _ k1)),L3.ro _ _ (R _ _ q3)⟩
 ·rintro acc l' V' L y1 y2 us rfl hu
  rw[List.length_map,List.length_range,List.take_of_length_le (by rw[List.length_zip];lia)]at hu
  refine⟨_,rfl,fun la V3 L3 hla f1=>?_⟩
  ac_rfl
  refine⟨bW rfl,fun qa V4 L4 hqa h4=>?_⟩
  ac_rfl
  have LL:=L.trans (L3.trans L4)
  exact h _ _ (L2.trans LL.nil) (m2.keep LL) ⟨qa,fa,la,nums,rfl,h4,hn,⟨fa,rs,rfl,LL.ro _ _ hfa,Paired.imp (fun _ _ q=>q.mono LL.ro) hr⟩,⟨la,us,rfl,L4.ro _ _ f1,Paired.imp (fun _ _ q=>q.mono (L3.trans L4).ro) hu⟩⟩
end
theorem qC{α β γ δ:Type}{R:α->β->Prop}{S:γ->δ->Prop}{f:α->γ}{g:β->δ}(h:∀a b,R a b->S (f a) (g b)):∀{xs:List α} {ys:List β},PySem.Paired R xs ys->PySem.Paired S (xs.map f) (ys.map g):=by
 intro xs ys q
 induction q with
 |nil=>exact .nil
 |cons a _ ih=>exact .cons (h _ _ a) ih
structure xU(n:Nat)(h1 h2:Kv)(t1 t2:ai):Prop where
 lens:(bX t1).map List.length=(bX t2).map List.length
 pl:(fL t1).length<=6
 gl:(bX t1).length<=6
 g4:∀g∈bX t1,g.length<=4
 sc:∀p∈fL t1,p.2.length<=4/\∀k∈p.2,k<(bX t1).length
 al:∀nums:List (List Nat),nums.map List.length=(bX t1).map List.length->PySem.Paired (fun(p q:ai×List Nat)=>AL n (gC h1 ((bX t1).zip nums) p.2) (gC h2 ((bX t2).zip nums) p.2) p.1 q.1) (fL t1) (fL t2)
theorem AY{α:Type}{xs:List α}(h:xs.length=1):∃x,xs=[x]:=by
 match xs,h with
 | [x],_=>exact⟨x,rfl⟩
theorem rM{al:List (Int×ai)}{rest:List (List Nat)}(i:Nat):(((al.map fun _=>([]:List Str)).zip rest).getD i ([],[])).1=[]:=by
 rw[List.getD_eq_getElem?_getD]
 induction h:((al.map fun _=>([]:List Str)).zip rest)[i]? with
 |none=>rfl
 |some p=>
  obtain⟨a,b⟩:=p
  rw[List.getElem?_zip_eq_some,List.getElem?_map]at h
  refine ff h fun h1 h2=>?_
  induction e:al[i]? with
  |none=>rw[e]at h1;cases h1
  |some q=>rw[e]at h1;exact(Option.some.inj h1).symm
theorem sD{h:Kv}{x:Str}{k:Nat}{al:List (Int×ai)}{rest:List (List Nat)}(i:Nat):gC h (([x],[k])::(al.map fun _=>([]:List Str)).zip rest) [0,i+1]=stored h x (.int (k:Int) 0):=by
 show eB (eB h [x] [k]) (((al.map fun _=>([]:List Str)).zip rest).getD i ([],[])).1 _=_
 rw[rM];rfl
theorem tK{n:Nat}{H1 H2:Kv}{R:ai×List Nat->ai×List Nat->Prop}(hR:∀i t u,AL n H1 H2 t u->R (t,[0,i+1]) (u,[0,i+1])):∀{al al':List (Int×ai)},PySem.Paired (fun(p q:Int×ai)=>p.1=q.1/\AL n H1 H2 p.2 q.2) al al'->∀i,PySem.Paired R (eA i al) (eA i al'):=by
 intro al al' q
 induction q with
 |nil=>exact fun i=> .nil
 |cons a _ ih=>exact fun i=> .cons (hR i _ _ a.2) (ih (i+1))
theorem vI:∀(al:List (Int×ai)) (i m:Nat),i+al.length+1<=m->∀p∈eA i al,p.2.length<=4/\∀k∈p.2,k<m:=by
 intro zz
 induction zz with
 |nil=>
  intro i m h p hp
  cases hp
 |cons a r ih=>
  intro i m h p hp
  rw[List.length_cons]at h
  rcases List.mem_cons.mp hp with rfl|q
  ·refine⟨by simp,fun k hk=>?_⟩
   simp only[List.mem_cons,List.mem_nil_iff,or_false]at hk
   rcases hk with rfl|rfl<;>exact bK h
  ·exact ih (i+1) m (by lia) p q
theorem iW{n:Nat}{h1 h2:Kv}{as bs:List ai}(h:PySem.Paired (AL n h1 h2) as bs){gs1 gs2:List v6}:PySem.Paired (fun(p q:ai×List Nat)=>AL n (gC h1 gs1 p.2) (gC h2 gs2 p.2) p.1 q.1) (as.map fun a=>(a,[])) (bs.map fun a=>(a,[])):=by
 induction h with
 |nil=>exact .nil
 |cons a _ ih=>exact .cons a ih
theorem po{as:List ai}{m:Nat}:∀p∈as.map fun a=>(a,([]:List Nat)),p.2.length<=4/\∀k∈p.2,k<m:=by
 intro p hp
 refine be (List.mem_map.mp hp) fun a ha z2=>?_;subst z2
 exact⟨by simp,by simp⟩
theorem vJ{n:Nat}{h1 h2:Kv}{t1 t2:ai}(h:AL (n+1) h1 h2 t1 t2):xU n h1 h2 t1 t2:=by
 induction t1 using ai.cs<;>induction t2 using ai.cs<;>first|exact h.elim|skip
 ·exact⟨rfl,Nat.zero_le _,Nat.zero_le _,fun _ q=>absurd q List.not_mem_nil,fun _ q=>absurd q List.not_mem_nil,fun _ _=> .nil⟩
 ·exact⟨rfl,Nat.zero_le _,Nat.zero_le _,fun _ q=>absurd q List.not_mem_nil,fun _ q=>absurd q List.not_mem_nil,fun _ _=> .nil⟩
 ·exact⟨rfl,Nat.le_trans (Nat.le_of_eq (List.length_map _)) (fQ h.2.1 rfl),Nat.zero_le _,fun _ q=>absurd q List.not_mem_nil,po,fun _ _=>iW h.2.2⟩
 ·exact⟨rfl,Nat.le_trans (Nat.le_of_eq (List.length_map _)) (fQ h.2.1 rfl),Nat.zero_le _,fun _ q=>absurd q List.not_mem_nil,po,fun _ _=>iW h.2.2⟩
 ·rename_i ps b qs b'
  refine⟨congrArg (fun z=>[z]) h.1,Nat.le_of_ble_eq_true rfl,Nat.le_of_ble_eq_true rfl,?_,?_,fun nums hn=>?_⟩
  ·intro g hg;rw[show g=ps from List.mem_singleton.mp hg];exact h.2.1
  ·intro p hp;rw[show p=(b,[0])from List.mem_singleton.mp hp];exact⟨Nat.le_of_ble_eq_true rfl,fun k hk=>by rw[List.mem_singleton.mp hk];exact Nat.le_of_ble_eq_true rfl⟩
  ·refine dP (AY (xs:=nums) (by have:=congrArg List.length hn;rw[List.length_map,List.length_map]at this;exact this)) fun ks z1=>?_;subst z1
   have hk:ks.length=ps.length:=(List.cons.inj (show [ks.length]=[ps.length]from hn)).1
   exact .cons (h.2.2 ks hk) .nil
 ·rename_i f as g bs
  refine⟨rfl,Nat.succ_le_succ (Nat.le_trans (Nat.le_of_eq (List.length_map _)) (fQ h.1 rfl)),Nat.zero_le _,fun _ q=>absurd q List.not_mem_nil,?_,fun _ _=> .cons h.2.1 (iW h.2.2)⟩
  intro p hp
  rcases List.mem_cons.mp hp with rfl|q
  ·exact⟨by simp,by simp⟩
  ·exact po p q
 ·rename_i e x al o e' y al' o'
  have hal:=(h.2.2 0).1.length
  refine⟨?_,?_,Nat.succ_le_succ (Nat.le_trans (Nat.le_of_eq (List.length_map _)) (fQ h.1 rfl)),?_,?_,fun nums hn=>?_⟩
  ·show 1::((al.map fun _=>([]:List Str)).map List.length)=1::((al'.map fun _=>([]:List Str)).map List.length)
   rw[List.map_map,List.map_map]
   congr 1
   apply List.ext_getElem
   ·simp[hal]
   ·intro i p q;simp
  ·show(((e,[])::eA 0 al)++_).length<=6
   rw[List.length_append,List.length_cons,iy]
   induction o with
   |none=>exact Nat.succ_le_succ (fQ h.1 rfl)
   |some t=>exact Nat.succ_le_succ (Nat.succ_le_succ (fQ h.1 rfl))
  ·intro g hg
   rcases List.mem_cons.mp hg with rfl|q
   ·simp
   ·refine be (List.mem_map.mp q) fun a ha z2=>?_;subst z2;simp
  ·intro p hp
   have hgl:(bX (.case e x al o)).length=al.length+1:=congrArg Nat.succ (List.length_map _)
   rw[hgl]
   rcases List.mem_append.mp hp with q|q
   ·rcases List.mem_cons.mp q with rfl|q
    ·exact⟨by simp,by simp⟩
    ·exact vI al 0 _ (by lia) p q
   ·induction o with
    |none=>cases q
    |some t=>simp at q;subst q;exact⟨by simp,fun k hk=>by simp at hk;subst hk;lia⟩
  ·match nums,hn with
   |n0::rest,hn=>
    have hn':n0.length::rest.map List.length=1::(al.map fun _=>([]:List Str)).map List.length:=hn
    injection hn' with hn1 hn2
    refine dP (AY hn1) fun k z1=>?_;subst z1
    refine ff (h.2.2 k) fun ha ho=>?_
    show PySem.Paired _ (((e,[])::eA 0 al)++_) (((e',[])::eA 0 al')++_)
    refine Paired.append (.cons h.2.1 (tK (fun i t u q=>?_) ha 0)) ?_
    ·show AL n (gC h1 (([x],[k])::(al.map fun _=>([]:List Str)).zip rest) [0,i+1]) (gC h2 (([y],[k])::(al'.map fun _=>([]:List Str)).zip rest) [0,i+1]) t u
     rw[sD,sD];exact q
    ·induction o<;>cases o'<;>first|exact ho.elim|exact .nil|exact .cons ho .nil
 ·rename_i bs b r bs' b' r'
  refine ye h fun hr hl yd ha=>?_
  subst hr
  refine⟨congrArg (fun z=>[z]) ((List.length_map _).trans (hl.trans (List.length_map _).symm)),by show((bs.map _)++ [_]).length<=6;rw[List.length_append,List.length_map];exact Nat.succ_le_succ (fQ yd rfl),Nat.le_of_ble_eq_true rfl,?_,?_,fun nums hn=>?_⟩
  ·intro g hg;rw[show g=bs.map (·.1)from List.mem_singleton.mp hg,List.length_map];exact yd
  ·intro p hp
   rcases List.mem_append.mp hp with q|q
   ·refine be (List.mem_map.mp q) fun a _ z2=>?_;subst z2
    induction r with
    |false=>exact⟨Nat.zero_le _,fun _ q=>absurd q List.not_mem_nil⟩
    |true=>exact⟨Nat.le_of_ble_eq_true rfl,fun k q=>by rw[List.mem_singleton.mp q];exact Nat.le_of_ble_eq_true rfl⟩
   ·rw[List.mem_singleton.mp q];exact⟨Nat.le_of_ble_eq_true rfl,fun k q=>by rw[List.mem_singleton.mp q];exact Nat.le_of_ble_eq_true rfl⟩
  ·obtain⟨ks,rfl⟩:=AY (xs:=nums) (by have:=congrArg List.length hn;rw[List.length_map,List.length_map]at this;exact this)
   have hk:ks.length=bs.length:=(List.cons.inj (show [ks.length]=[(bs.map (·.1)).length]from hn)).1.trans (List.length_map _)
   refine ff (ha ks hk) fun hb hc=>?_
   refine Paired.append (qC (fun p q hpq=>?_) hb) (.cons hc .nil)
   induction r<;>exact hpq
structure jr where
 n:Nat
 h1:Kv
 h2:Kv
 t1:ai
 t2:ai
section
variable{c:Cx}{d n:Nat}{env:Env}{l:au}{V:St}{p pos:Pos}{Q:Value->St->Prop}{QB:Bool->St->Prop}{QF:Fl->au->St->Prop}{QL:au->St->Prop}{ns:List (Str×NameKind)}
abbrev DO(QF:Fl->au->St->Prop)(l:au):Bool->St->Prop:=fun b V=>b=false/\QF .next l V
abbrev DP(c:Cx)(d:Nat)(env:Env)(l:au)(body:List Stmt)(QW:Fl->au->St->Prop):Bool->St->Prop:=fun b V=>b=true/\SS c d env l body V QW
theorem pp{t:Expr}{body:List Stmt}(I:List jr->au->St->Prop)(ok:jr->Prop)(lim:Nat)(zero:∀k,ok k->k.n≠0)
  (base:∀l V,I [] l V->T c d env l t V fun b V1=>b=false/\QF .next l V1)
  (step:∀S k l V,ok k->S.length<=lim->I (S++ [k]) l V->T c d env l t V fun b V1=>b=true/\SS c d env l body V1 fun f l1 V2=>match f with
   | .next=>∃ks:List jr,ks.length<=6/\(∀k'∈ks,ok k'/\k'.n+1=k.n)/\I (S++ks) l1 V2
   | .ret _=>False
   | .other=>False) {k:jr} (hk:ok k) (hl:6*k.n<=lim) (hI:I [k] l V):gc c d env t body l V QF:=by
 let Good:List jr->Prop:=fun S=>∀l V,I S l V->gc c d env t body l V QF
 have g0:Good []:=fun l V h=>gF ((base l V h).mono fun b V1 q=>by obtain⟨rfl,q⟩:=q;rw[if_neg (by decide)];exact q)
 have all:∀n,(∀S k,k.n=n->ok k->S.length+6*n<=lim->Good S->Good (S++ [k]))->∀(ks S:List jr),(∀k'∈ks,ok k'/\k'.n=n)->S.length+ks.length+6*n<=lim->Good S->Good (S++ks):=by
  intro n ih ks
  induction ks with
  |nil=>intro S _ _ hS;rw[List.append_nil];exact hS
  |cons a r ihr=>
   intro S hk hl hS
   rw[List.length_cons]at hl
   have h1:=ih S a (hk a List.mem_cons_self).2 (hk a List.mem_cons_self).1 (by exact bK hl) hS
   have h2:=ihr (S++ [a]) (fun k' hk'=>hk k' (List.mem_cons_of_mem _ hk')) (by rw[List.length_append,List.length_singleton];exact bK hl) h1
   rwa [List.append_assoc]at h2
 have main:∀n,∀S k,k.n=n->ok k->S.length+6*n<=lim->Good S->Good (S++ [k]):=by
  intro n
  induction n with
  |zero=>intro S k hn ho _ _;exact absurd hn (zero k ho)
  |succ n ih=>
   intro S k hn ho hl hS l V hI
   refine gF ((step S k l V ho (by exact bK hl) hI).mono fun b V1 q=>?_)
   obtain⟨rfl,q⟩:=q
   nofun
   refine q.mono fun f l1 V2 q=>?_
   induction f with
   |next=>
    refine iz q fun ks hkl hks hI=>?_
    exact all n ih ks S (fun k' hk'=>⟨(hks k' hk').1,by have:=(hks k' hk').2;exact Nat.le_antisymm (bC (Nat.le_of_eq this) (Nat.le_of_eq hn)) (bC (Nat.le_of_eq hn.symm) (Nat.le_of_eq this.symm))⟩) (by exact bC hl hkl) hS l1 V2 hI
   |ret v=>exact q.elim
   |other=>exact q.elim
 exact main k.n [] k rfl hk (by simpa using hl) g0 l V hI
theorem qD{t:Expr}{body:List Stmt}(F:List jr->I2)(ok:jr->Prop)(lim:Nat)(zero:∀k,ok k->k.n≠0)(base:∀l V,F [] l V (T c d env l t V (DO QF l)))
  (step:∀S k l V,ok k->S.length<=lim->∀R,sX (fun l V=>∃ks:List jr,ks.length<=6/\(∀k'∈ks,ok k'/\k'.n+1=k.n)/\re (F (S++ks)) l V) R->F (S++ [k]) l V (T c d env l t V (DP c d env l body (ni R fun _ _ _=>False))))
  {k:jr} (hk:ok k) (hl:6*k.n<=lim) (hI:re (F [k]) l V):gc c d env t body l V QF:=
 pp (fun S=>re (F S)) ok lim zero (fun l V h=>h _ (base l V)) (fun S k l V h1 h2 h3=>h3 _ (step S k l V h1 h2 _ fun _ _ q=>q)) hk hl hI
theorem kH(KT:HK c){v:Value}{t:ai}(h1:Rp (n+1) V v t)(hs:Cq t)(hd:2<=d)(h:∀w V',Le [] V V'->xN n V' w (fL t)->Q w V'):
  gT c d "parts" v V fun f first V2=>pD c f/\Es c d env l p [] V2 fun vs V3=>Calls c d f (first++vs) V3 Q:=by
 induction t using ai.cs with
 |var x=>exact dF h1 KT rfl (dE _) (pW _) (pX _) ⟨bJ KT (BM _),cN (ab.at (AQ KT h) hd)⟩
 |lit x=>exact dF h1 KT rfl (dX _) (ou _) (ox _) ⟨bJ KT (BO _),cN (ab.at (AR KT h) hd)⟩
 |prim op as=>refine dl h1 fun a vs i1 i2 i3=>?_;exact dF i1 KT rfl (cn _) (oN _) (oO _) ⟨bJ KT (zk _),cN (ab.at (xQ KT i1 i2 i3 (Nat.le_trans hs (by decide)) h) hd)⟩
 |con op as=>refine dl h1 fun a vs i1 i2 i3=>?_;exact dF i1 KT rfl (dk _) (oK _) (oM _) ⟨bJ KT (zi _),cN (ab.at (AU KT i1 i2 i3 (Nat.le_trans hs (by decide)) h) hd)⟩
 |lam ps b=>refine dl h1 fun a bv i1 i2 i3=>?_;exact dF i1 KT rfl (bP _) (oE _) (oF _) ⟨bJ KT (zc _),cN (ab.at (AW KT i1 i3 h) hd)⟩
 |app f as=>refine ku h1 fun fv a vs i1 i2 i3 i4=>?_;exact dF i1 KT rfl (aS _) (oy _) (oz _) ⟨bJ KT (za _),cN (ab.at (AV KT i1 i2 i3 i4 (Nat.le_trans hs (by decide)) h) hd)⟩
 |case e x al o=>refine rO h1 fun ev a avs ov i1 i2 i3 i4 i5=>?_;exact dF i1 KT rfl (aK _) (oI _) (oJ _) ⟨bJ KT (zg _),cN (ab.at (xR KT i1 i2 i3 i4 i5 (Nat.le_trans hs (by decide)) h) hd)⟩
 |letn bs b r=>refine ku h1 fun a pvs bv i1 i2 i3 i4=>?_;exact dF i1 KT rfl (aM _) (oG _) (oH _) ⟨bJ KT (ze _),cN (ab.at (AX KT i1 i2 i3 i4 (Nat.le_trans hs (by decide)) h) hd)⟩
theorem qE(KT:HK c){v:Value}{t:ai}(h1:Rp (n+1) V v t)(hs:Cq t)(hd:2<=d)(h:∀w V',Le [] V V'->sB V' w (bX t)->Q w V'):
  gT c d "groups" v V fun f first V2=>pD c f/\Es c d env l p [] V2 fun vs V3=>Calls c d f (first++vs) V3 Q:=by
 induction t using ai.cs with
 |var x=>exact dF h1 KT rfl (dE _) (oo _) (ot _) ⟨bJ KT (BL _),cN (ab.at (AM KT h) hd)⟩
 |lit x=>exact dF h1 KT rfl (dX _) (mz _) (mA _) ⟨bJ KT (BN _),cN (ab.at (AN KT h) hd)⟩
 |prim op as=>refine dl h1 fun a vs i1 i2 i3=>?_;exact dF i1 KT rfl (cn _) (mL _) (mM _) ⟨bJ KT (zj _),cN (ab.at (xO KT h) hd)⟩
 |con op as=>refine dl h1 fun a vs i1 i2 i3=>?_;exact dF i1 KT rfl (dk _) (mJ _) (mK _) ⟨bJ KT (zh _),cN (ab.at (AP KT h) hd)⟩
 |lam ps b=>refine dl h1 fun a bv i1 i2 i3=>?_;exact dF i1 KT rfl (bP _) (mD _) (mE _) ⟨bJ KT (zb _),cN (ab.at (AS KT i1 i2 h) hd)⟩
 |app f as=>refine ku h1 fun fv a vs i1 i2 i3 i4=>?_;exact dF i1 KT rfl (aS _) (mB _) (mC _) ⟨bJ KT (y9 _),cN (ab.at (AO KT h) hd)⟩
 |case e x al o=>refine rO h1 fun ev a avs ov i1 i2 i3 i4 i5=>?_;exact dF i1 KT rfl (aK _) (mH _) (mI _) ⟨bJ KT (zf _),cN (ab.at (xP KT i1 i3 i4 (Nat.le_trans hs (by decide)) h) hd)⟩
 |letn bs b r=>refine ku h1 fun a pvs bv i1 i2 i3 i4=>?_;exact dF i1 KT rfl (aM _) (mF _) (mG _) ⟨bJ KT (zd _),cN (ab.at (AT KT i1 i2 i3 (Nat.le_trans hs (by decide)) h) hd)⟩
end
def js(h:Kv):Prop:=∀x v,h.lookup x=some v->∃j:Int,v= .int j 0
theorem js.st{h:Kv}{x:Str}{j:Int}(hh:js h):js (stored h x (.int j 0)):=fun y v e=>by
 rw[eJ]at e
 split at e
 ·exact⟨j,(Option.some.inj e).symm⟩
 ·exact hh y v e
theorem js.fold{zs:List (Str×Nat)}:∀{h:Kv},js h->js (zs.foldl (fun h p=>stored h p.1 (.int (p.2:Int) 0)) h):=by
 induction zs with
 |nil=>exact fun h=>h
 |cons z r ih=>exact fun h=>ih h.st
theorem js.env{gs:List v6}:∀{sc:List Nat} {h:Kv},js h->js (gC h gs sc)
 | [],_,h=>h
 |k::r,_,h=>js.env (sc:=r) (js.fold h)
theorem vK{h:Kv}(hh:js h)(x:Str):(∃j:Int,ge h x= .int j 0)∨ge h x= .str x 0:=by
 unfold ge
 induction e:h.lookup x with
 |none=>exact .inr rfl
 |some v=>refine dP (hh x v e) fun j z1=>?_;subst z1;exact .inl ⟨j,rfl⟩
def AZ(N:Nat)(V:St)(w:Value)(k:jr):Prop:=∃q v1 v2 a1 a2 e1 e2,w= .ref q/\V q=some (.ro (.tup [v1,v2,.ref a1,.ref a2]))/\Rp N V v1 k.t1/\Rp N V v2 k.t2/\V a1=some (.ro (.dict k.h1 e1))/\V a2=some (.ro (.dict k.h2 e2))
theorem AZ.mono{N:Nat}{V V':St}{w:Value}{k:jr}(h:AZ N V w k)(L:Ro V V'):AZ N V' w k:=by obtain⟨q,v1,v2,a1,a2,e1,e2,e,i1,i2,i3,i4,i5⟩:=h;exact⟨q,v1,v2,a1,a2,e1,e2,e,L _ _ i1,i2.mono L,i3.mono L,L _ _ i4,L _ _ i5⟩
def Cf(k:jr):Prop:=AL k.n k.h1 k.h2 k.t1 k.t2/\js k.h1/\js k.h2/\k.h1.length+20*k.n<=50000/\k.h2.length+20*k.n<=50000
theorem Paired.unsnoc{α β:Type}{R:α->β->Prop}{xs:List α}{ys:List β}{y:β}(h:PySem.Paired R xs (ys++ [y])):∃xs' x,xs=xs'++ [x]/\PySem.Paired R xs' ys/\R x y:=by
 induction ys generalizing xs with
 |nil=>cases h with|cons a h=>cases h;exact⟨[],_,rfl,.nil,a⟩
 |cons z r ih=>cases h with|cons a h=>refine dl (ih h) fun xs' x z2 h1 h2=>?_;subst z2;exact⟨_::xs',x,rfl,.cons a h1,h2⟩
theorem rN:∀{gs:List (List Str)} {nums:List (List Nat)},nums.map List.length=gs.map List.length->(∀g∈gs,g.length<=4)->∀g∈gs.zip nums,g.1.length<=4/\g.2.length=g.1.length
 | [],_,_,_,g,hg=>by simp at hg
 |a::r,[],h,_,g,hg=>by simp at hg
 |a::r,b::s,h,h4,g,hg=>by
  rw[List.map_cons,List.map_cons]at h
  injection h with h1 h2
  rcases List.mem_cons.mp hg with rfl|q
  ·exact⟨h4 a List.mem_cons_self,h1⟩
  ·exact rN h2 (fun g hg=>h4 g (List.mem_cons_of_mem _ hg)) g q
theorem Le.absorb{V V1 V2:St}{a:Addr}(x:Le [] V V1)(y:Le [a] V1 V2)(h:V a=none):Le [] V V2:=
 ⟨fun b r e=>y.ro b r (x.ro b r e),fun b o hm e=>y.ext b o (by simp only[List.mem_singleton];rintro rfl;rw[h]at e;cases e) (x.ext b o hm e)⟩
section
variable{c:Cx}{d n:Nat}{env:Env}{l:au}{V:St}{p pos:Pos}{Q:Value->St->Prop}{QB:Bool->St->Prop}{QF:Fl->au->St->Prop}{QL:au->St->Prop}{ns:List (Str×NameKind)}
theorem vL{w:Value}{x:Str}(hw:(∃j:Int,w= .int j 0)∨w= .str x 0)(h:Q (.bool false) V):J2 c d (compareOp .NotEq) w w V Q:=by
 rcases hw with⟨j,rfl⟩ |rfl
 ·exact t7 (by rw[bne_self_eq_false];exact h)
 ·exact t9 (by rw[bne_self_eq_false];exact h)
set_option maxHeartbeats 4000000 in
theorem A0(KT:HK c){N:Nat}{sv v1 v2:Value}{dx:Addr}{t1 t2:ai}(h1:mq V sv dx)(r1:Rp (N+1) V v1 t1)(r2:Rp (N+1) V v2 t2)(ha:AL n [] [] t1 t2)(hn:n<=100)(h:∀V',Le [dx] V V'->Q (.bool true) V'):ab c 6 (.ref 611) [sv,v1,v2] V Q:=by
 refine qZ (x0:="self") (x1:="one") (x2:="other") KT ?_
 intro env K
 try dsimp only at K
 refine dP h1.some fun od hod=>?_
 let F:I2:=fun l1 V1 G=>Le [] V V1->Lk l1 "self" sv->∀ta w,Lk l1 "tasks" (.ref ta)->V ta=none->V1 ta=some (.list [w])->AZ (N+1) V1 w ⟨n,[],[],t1,t2⟩->G
 refine aC F ?_ ?_
 ·intro _ _
  walk_at "goT"
  intro a1 p1 V1 L1 ha1 e1
  walk_at "goT"
  intro a2 p2 V2 L2 ha2 e2
  walk_at "goT"
  refine⟨bW rfl,fun qa V3 L3 hqa h3=>?_⟩
  walk_at "goT"
  refine⟨bW rfl,fun ta hta=>?_⟩
  walk_at "goT"
  have L4:Le [] V3 (V3.set ta (.list [.ref qa])):= .new hta
  have L13:=L1.trans (L2.trans L3)
  have L14:=L13.trans L4
  exact(fun _ k=>k L14 (by rfl') ta (.ref qa) (by rfl') (L13.none0 hta nn) (aj ..) ⟨qa,v1,v2,a1,a2,p1,p2,rfl,L4.ro _ _ h3,r1.mono L14.ro,r2.mono L14.ro,(L2.trans (L3.trans L4)).ro _ _ e1,(L3.trans L4).ro _ _ e2⟩)
 rintro l1 V1 L1 b1 ta w0 b2 hta0 hta1 hw0
 have htd:ta≠dx:=fun q=>by rw[q,hod]at hta0;cases hta0
 refine aG (iZ ?_)
 let Js:List jr->I2:=fun S l' V' G=>Le [dx] V V'->mq V' sv dx->Lk l' "self" sv->Lk l' "tasks" (.ref ta)->∀vs,V' ta=some (.list vs)->PySem.Paired (AZ (N+1) V') vs S->G
 refine qD Js Cf 1000 ?_ ?_ ?_ (k:=⟨n,[],[],t1,t2⟩) ⟨ha,(fun x v e=>by cases e),(fun x v e=>by cases e),(by simp;lia),(by simp;lia)⟩ (by show 6*n<=1000;lia)
  (by exact fun _ κ=>κ L1.nil (h1.keep L1) b1 b2 [w0] hta1 (.cons hw0 .nil))
 ·intro k hk e
  have:=hk.1
  rw[e]at this
  exact this
 ·rintro l2 V2 L2 m2 b1 b2 vs hta hvs
  cases hvs
  walk_at "goT"
  refine rU (af hta) (by simp) ?_
  refine⟨rfl,?_⟩
  walk_at "goT"
  exact h _ L2
 rintro S k l2 V2 hok hS R hR L2 m2 b1 b2 vs hta hvs
 refine dl (Paired.unsnoc hvs) fun vs' w z2 hvs' hw=>?_;subst z2
 have hvl:=hvs'.length
 walk_at "goT"
 refine rU (af hta) (by rw[List.length_append,List.length_singleton];exact bC (Nat.le_of_eq hvl) hS) ?_
 refine⟨by simp,?_⟩
 obtain⟨kn,kh1,kh2,kt1,kt2⟩:=k
 refine tL hok fun hal hi1 hi2 hz1 hz2=>?_
 dsimp only at hal hi1 hi2 hz1 hz2
 induction kn using dQ with
 |zero=>exact hal.elim
 |succ n'=>
 refine nT (vF hal) fun hcl hs1 hs2=>?_
 have P:=vJ hal
 obtain⟨q,u1,u2,a1,a2,e1,e2,rfl,i1,i2,i3,i4,i5⟩:=hw
 dsimp only at i2 i3 i4 i5
 have RT:=cj (o':= .list vs') hta rfl
 let F:I2:=fun l3 V3 G=>Le [dx] V V3->Ro V2 V3->mq V3 sv dx->Lk l3 "self" sv->Lk l3 "tasks" (.ref ta)->Lk l3 "first" u1->Lk l3 "second" u2->Lk l3 "here" (.ref a1)->Lk l3 "there" (.ref a2)->V3 ta=some (.list vs')->G
 refine aC F ?_ ?_
 ·intro _ _
  walk_at "goT"
  refine yX hta ⟨trivial,?_⟩
  walk_at "goT"
  refine yY hta (by exact bC (Nat.le_of_eq hvl) hS) ?_
  walk_at "goT"
  refine iY (af (RT _ _ i1)) rfl rfl ?_
  walk_at "goT"
  refine sI m2 fun x k e ne p1 p2=>?_
  have htx:ta≠x:=fun q=>by rw[q,p1]at hta;cases hta
  exact(fun _ κ=>κ (L2.touch hta0 hta rfl) RT ⟨x,k,e,ne,by rw[aA _ _ htx.symm];exact p1,by rw[aA _ _ htd.symm];exact p2⟩ (by rfl') (by rfl') (by rfl') (by rfl') (by rfl') (by rfl') (aj ..))
 rintro l3 V3 L3 R3 m3 c1 c2 c3 c4 c5 c6 hta3
 replace i2:=i2.mono R3
 replace i3:=i3.mono R3
 replace i4:=R3 _ _ i4
 replace i5:=R3 _ _ i5
 replace hvs':=Paired.imp (fun _ _ q=>AZ.mono q R3) hvs'
 clear i1 R3 RT m2 L2 hta
 have hpl:(fL kt1).length=(fL kt2).length:=(P.al ((bX kt1).map fun g=>List.replicate g.length 0) (by rw[List.map_map];apply List.map_congr_left;intro g _;simp)).length
 let F:I2:=fun l4 V4 G=>Le [] V3 V4->Lk l4 "self" sv->Lk l4 "tasks" (.ref ta)->Lk l4 "first" u1->Lk l4 "second" u2->Lk l4 "here" (.ref a1)->Lk l4 "there" (.ref a2)->G
 refine aC F ?_ ?_
 ·intro _ _
  walk_at "goT"
  refine ab.at (qz KT i2 i3 hal fun V4 L4=>?_) (by lia)
  walk_at "goT"
  refine kH KT (i2.mono L4.ro) hs1 (by lia) fun w1 V5 L5 g1=>?_
  obtain⟨x1,ys1,rfl,g1,g1'⟩:=g1
  walk_at "goT"
  refine cg (.inl (af g1)) (by rw[g1'.length];have:=P.pl;lia) ?_
  walk_at "goT"
  refine kH KT (i3.mono (L4.trans L5).ro) hs2 (by lia) fun w2 V6 L6 g2=>?_
  obtain⟨x2,ys2,rfl,g2,g2'⟩:=g2
  walk_at "goT"
  refine cg (.inl (af g2)) (by rw[g2'.length,←hpl];have:=P.pl;lia) ?_
  refine t7 ?_
  rw[g1'.length,g2'.length,hpl,bne_self_eq_false]
  walk_at "goT"
  exact(fun _ k=>k (L4.trans (L5.trans L6)) (by rfl') (by rfl') (by rfl') (by rfl') (by rfl') (by rfl'))
 rintro l4 V4 L4 d1 d2 d3 d4 d5 d6
 let F:I2:=fun l5 V5 G=>Le [] V3 V5->Lk l5 "self" sv->Lk l5 "tasks" (.ref ta)->Lk l5 "first" u1->Lk l5 "second" u2->Lk l5 "here" (.ref a1)->Lk l5 "there" (.ref a2)->G
 refine aC F ?_ ?_
 ·intro _ _
  walk_at "goT"
  refine d9 KT (i2.mono L4.ro) rfl ?_
  walk_at "goT"
  by_cases hv:bh kt1=59
  ·refine bu (by rw[hv];rfl) ?_
   induction kt1 using ai.cs<;>first| (cases hv;done) |skip
   induction kt2 using ai.cs<;>first|exact hal.elim|skip
   rename_i x y
   have hxy:ge kh1 x=ge kh2 y:=hal
   walk_at "goT"
   refine k8 (af (L4.ro _ _ i4)) ⟨trivial,?_⟩
   walk_at "goT"
   refine ao (i2.mono L4.ro) KT (dE _) (bT _) rfl rfl ?_
   walk_at "goT"
   refine ao (i2.mono L4.ro) KT (dE _) (bT _) rfl rfl ?_
   walk_at "goT"
   refine ld (af (L4.ro _ _ i4)) ?_
   walk_at "goT"
   refine k8 (af (L4.ro _ _ i5)) ⟨trivial,?_⟩
   walk_at "goT"
   refine ao (i3.mono L4.ro) KT (dE _) (bT _) rfl rfl ?_
   walk_at "goT"
   refine ao (i3.mono L4.ro) KT (dE _) (bT _) rfl rfl ?_
   walk_at "goT"
   refine ld (af (L4.ro _ _ i5)) ?_
   have hx1:(kh1.lookup x).getD (.str x 0)=ge kh1 x:=rfl
   have hy1:(kh2.lookup y).getD (.str y 0)=ge kh1 x:=hxy.symm
   rw[hx1,hy1]
   refine vL (vK hi1 x) ?_
   walk_at "goT"
   exact(fun _ k=>k L4 d1 d2 d3 d4 d5 d6)
  ·refine bz (by simpa using hv) ?_
   walk_at "goT"
   exact(fun _ k=>k L4 d1 d2 d3 d4 d5 d6)
 clear d1 d2 d3 d4 d5 d6 L4
 rintro l5 V5 L5 d1 d2 d3 d4 d5 d6
 have hta5:=L5.at0 hta3
 let F:I2:=fun l6 V6 G=>Le [dx] V5 V6->mq V6 sv dx->Lk l6 "self" sv->Lk l6 "tasks" (.ref ta)->Lk l6 "first" u1->Lk l6 "second" u2->Lk l6 "here" (.ref a1)->Lk l6 "there" (.ref a2)->∀gq ga gb,∀nums:List (List Nat),Lk l6 "groups" (.ref gq)->V6 gq=some (.ro (.tup [.ref ga,.ref gb]))->nums.map List.length=(bX kt1).map List.length->yF V6 (.ref ga) ((bX kt1).zip nums)->yF V6 (.ref gb) ((bX kt2).zip nums)->G
 refine aC F ?_ ?_
 ·intro _ _
  walk_at "goT"
  have m5:=m3.keep L5
  refine sI (id m5) fun x k e ne p1 p2=>?_
  subst e
  refine kS (af p1) (af p2) rfl (d8 KT (fT _)) (by rw[KT];exact jE _) (by rw[KT];exact jF _) ⟨bJ KT (zp _),?_⟩
  walk_at "goT"
  refine qE KT (i2.mono L5.ro) hs1 (by lia) fun w1 V6 L6 g1=>?_
  walk_at "goT"
  refine qE KT (i3.mono (L5.trans L6).ro) hs2 (by lia) fun w2 V7 L7 g2=>?_
  walk_at "goT"
  refine ab.at (qB KT (m5.keep (L6.trans L7)) (g1.mono L7.ro) g2 P.lens (by have:=P.gl;lia) P.g4 fun w V8 L8 m8 og=>?_) (by lia)
  refine rO og fun gq ga gb nums z4 o1 o2 o3 o4=>?_;subst z4
  walk_at "goT"
  exact(fun _ κ=>κ ((L6.trans L7).nil.trans L8) m8 (by rfl') (by rfl') (by rfl') (by rfl') (by rfl') (by rfl') gq ga gb nums (by rfl') o1 o2 o3 o4)
 rintro l6 V6 L6 m6 d1 d2 d3 d4 d5 d6 gq ga gb nums d7 o1 o2 o3 o4
 have hta6:=L6.at hta5 (by simpa using htd)
 have R36:Ro V3 V6:=fun a r q=>L6.ro _ _ (L5.ro _ _ q)
 have hzk1:=rN o2 P.g4
 have hg42:∀g∈bX kt2,g.length<=4:=by
  intro g hg
  have:g.length∈(bX kt1).map List.length:=by rw[P.lens];exact List.mem_map.mpr ⟨g,hg,rfl⟩
  refine be (List.mem_map.mp this) fun g' hg' e=>?_
  rw[←e];exact P.g4 g' hg'
 have hzk2:=rN (o2.trans P.lens) hg42
 have hnl:nums.length=(bX kt1).length:=by have:=congrArg List.length o2;rwa [List.length_map,List.length_map]at this
 have hgg:(bX kt1).length=(bX kt2).length:=by have:=congrArg List.length P.lens;rwa [List.length_map,List.length_map]at this
 have hgl:=P.gl
 let F:I2:=fun l7 V7 G=>V7=V6->Lk l7 "self" sv->Lk l7 "tasks" (.ref ta)->Lk l7 "first" u1->Lk l7 "second" u2->Lk l7 "here" (.ref a1)->Lk l7 "there" (.ref a2)->Lk l7 "groups" (.ref gq)->G
 refine aC F ?_ ?_
 ·intro _ _
  walk_at "goT"
  refine gZ (fun id q=>by cases q) ?_
  rw[show((Value.ref gq)== .none)=false from rfl]
  walk_at "goT"
  exact(fun _ k=>k rfl d1 d2 d3 d4 d5 d6 d7)
 clear d1 d2 d3 d4 d5 d6 d7
 rintro l7 V7 e7 d1 d2 d3 d4 d5 d6 d7
 subst e7
 let F:I2:=fun l8 V8 G=>Le [] V7 V8->Lk l8 "self" sv->Lk l8 "tasks" (.ref ta)->Lk l8 "here" (.ref a1)->Lk l8 "there" (.ref a2)->Lk l8 "groups" (.ref gq)->∀oa ob ys1 ys2,Lk l8 "ones" (.ref oa)->Lk l8 "others" (.ref ob)->V8 oa=some (.ro (.list ys1))->V8 ob=some (.ro (.list ys2))->PySem.Paired (tF N V8) ys1 (fL kt1)->PySem.Paired (tF N V8) ys2 (fL kt2)->G
 refine aC F ?_ ?_
 ·intro _ _
  walk_at "goT"
  refine kH KT (i2.mono R36) hs1 (by lia) fun w1 V8 L8 g1=>?_
  obtain⟨x1,ys1,rfl,g1,g1'⟩:=g1
  walk_at "goT"
  refine kH KT ((i3.mono R36).mono L8.ro) hs2 (by lia) fun w2 V9 L9 g2=>?_
  obtain⟨x2,ys2,rfl,g2,g2'⟩:=g2
  walk_at "goT"
  exact(fun _ k=>k (L8.trans L9) (by rfl') (by rfl') (by rfl') (by rfl') (by rfl') x1 x2 ys1 ys2 (by rfl') (by rfl') (L9.ro _ _ g1) g2 (Paired.imp (fun _ _ q=>q.mono L9.ro) g1') g2')
 rintro l8 V8 L8 f1 f2 f3 f4 f5 oa ob ys1 ys2 f6 f7 y1 y2 y3 y4
 have hyl:=y3.length
 have hpl6:=P.pl
 have R38:Ro V3 V8:=fun a r q=>L8.ro _ _ (R36 _ _ q)
 have hLA:Le [dx] V V8:=L3.trans (L5.nil.trans (L6.trans L8.nil))
 have hta8:=L8.at0 hta6
 walk_at "goT"
 refine cg (.inl (af y1)) (by exact bC (Nat.le_of_eq hyl) hpl6) ?_
 walk_at "goT"
 refine eH fun ra hra=>?_
 have LR:Le [] V8 (V8.set ra (.range (ys1.length:Nat))):= .new hra
 have hrt:ta≠ra:=fun q=>by rw[←q,hta8]at hra;cases hra
 refine⟨_,dh (n:=ys1.length) (af (aj ..)) (by exact bC (Nat.le_of_eq hyl) hpl6),?_⟩
 let F:I3:=fun i l' V' G=>Le [dx] V V'->Ro V8 V'->mq V' sv dx->Lk l' "self" sv->Lk l' "tasks" (.ref ta)->Lk l' "here" (.ref a1)->Lk l' "there" (.ref a2)->Lk l' "groups" (.ref gq)->Lk l' "ones" (.ref oa)->Lk l' "others" (.ref ob)->∀ws ks,V' ta=some (.list (vs'++ws))->ks.length=i->PySem.Paired (AZ (N+1) V') ws ks->(∀k'∈ks,Cf k'/\k'.n=n')->G
 refine cW ((List.range ys1.length).map fun(j:Nat)=>Value.int (j:Int) 0) F ?_ ?_ ?_ ((List.range ys1.length).map fun(j:Nat)=>Value.int (j:Int) 0).length 0 (Nat.zero_add _) (by exact fun _ κ=>κ (hLA.trans LR.nil) LR.ro ((m6.keep L8).keep LR) (by rfl') (by rfl') (by rfl') (by rfl') (by rfl') (by rfl') (by rfl') [] [] (by rw[aA _ _ hrt,List.append_nil];exact hta8) rfl .nil (by simp))
 ·rintro i l' V' _ _ _ _ _ _ _ _ _ _ _ _ _ _ _ _
  exact dH _ i
 ·rintro i z l' V' hz _ _ L R m z1 z2 z3 z4 z5 z6 z7 ws ks htaw hkl hws hks
  refine ff (mn hz) fun hi z1=>?_;subst z1
  obtain⟨w1,hw1⟩:∃w1,ys1[i]? =some w1:=⟨_,List.getElem?_eq_getElem hi⟩
  obtain⟨p1,hp1,q1,tv1,sc1,rfl,x1,x2,x3⟩:=Paired.get y3 hw1
  obtain⟨p2,hp2⟩:∃p2,(fL kt2)[i]? =some p2:=⟨_,List.getElem?_eq_getElem (by exact gi hi (Nat.le_of_eq hyl) (Nat.le_of_eq hpl))⟩
  obtain⟨w2,hw2,q2,tv2,sc2,rfl,x4,x5,x6⟩:=Paired.get2 y4 hp2
  refine ff (P.sc p1 (List.mem_of_getElem? hp1)) fun hsl hsk=>?_
  refine be (Paired.get2 (P.al nums o2) hp2) fun p1' hp1' hchild=>?_
  rw[hp1]at hp1'
  obtain rfl:=Option.some.inj hp1'
  have hwl:=hws.length
  walk_at "me"
  try dsimp only
  let F:I2:=fun l9 V9 G=>V9=V'->Lk l9 "self" sv->Lk l9 "tasks" (.ref ta)->Lk l9 "here" (.ref a1)->Lk l9 "there" (.ref a2)->Lk l9 "groups" (.ref gq)->Lk l9 "ones" (.ref oa)->Lk l9 "others" (.ref ob)->Lk l9 "at" (.int (i:Int) 0)->Lk l9 "part" tv1->Lk l9 "scope" (.ref sc1)->G
  refine aC F ?_ ?_
  ·intro _ _
   walk_at "goT"
   refine⟨aL (af (R _ _ y1)),aP (i:=i) (.inl (af (R _ _ y1))) rfl hw1 (by exact gi hi (Nat.le_of_eq hyl) hpl6) ?_⟩
   walk_at "goT"
   refine iY (af (R _ _ x1)) rfl rfl ?_
   walk_at "goT"
   exact(fun _ k=>k rfl (by rfl') (by rfl') (by rfl') (by rfl') (by rfl') (by rfl') (by rfl') (by rfl') (by rfl') (by rfl'))
  clear z1 z2 z3 z4 z5 z6 z7
  rintro l9 V9 e9 z1 z2 z3 z4 z5 z6 z7 z8 z9 z10
  subst e9
  have og9:=R _ _ (L8.ro _ _ o1)
  have oA:=(o3.mono L8.ro).mono R
  have oB:=(o4.mono L8.ro).mono R
  have ih1:=R _ _ (R38 _ _ i4)
  have ih2:=R _ _ (R38 _ _ i5)
  walk_at "goT"
  refine dT htaw ⟨trivial,?_⟩
  walk_at "goT"
  refine⟨aL (af (R _ _ y2)),aP (i:=i) (.inl (af (R _ _ y2))) rfl hw2 (by exact gi hi (Nat.le_of_eq hyl) hpl6) ?_⟩
  walk_at "goT"
  refine⟨cP (af (R _ _ x4)),aP (i:=0) (.inr (.inr (af (R _ _ x4)))) rfl rfl (by decide) ?_⟩
  walk_at "goT"
  refine⟨cP (af og9),aP (i:=0) (.inr (.inr (af og9))) rfl rfl (by decide) ?_⟩
  walk_at "goT"
  refine ab.at (nQ KT ih1 (R _ _ x3) oA (by exact bK hz1) hsl (by rw[List.length_zip];lia) (fun k hk=>by have:=hsk k hk;rw[List.length_zip];lia) hzk1 fun d1 ep1 V10 L10 hd1=>?_) (by lia)
  walk_at "goT"
  refine⟨cP (af (L10.ro _ _ og9)),aP (i:=1) (.inr (.inr (af (L10.ro _ _ og9)))) rfl rfl (by decide) ?_⟩
  walk_at "goT"
  refine ab.at (nQ KT (L10.ro _ _ ih2) (L10.ro _ _ (R _ _ x3)) (oB.mono L10.ro) (by exact bK hz2) hsl (by rw[List.length_zip];lia) (fun k hk=>by have:=hsk k hk;rw[List.length_zip];lia) hzk2 fun d2 ep2 V11 L11 hd2=>?_) (by lia)
  walk_at "goT"
  refine⟨bW rfl,fun qa V12 L12 hqa h12=>?_⟩
  walk_at "goT"
  have LL:=L10.trans (L11.trans L12)
  have hta12:=LL.at0 htaw
  refine dU hta12 (by rw[List.length_append];exact sz (by lia)) ?_
  walk_at "goT"
  have RT:=cj (o':= .list (vs'++ws++ [.ref qa])) hta12 rfl
  have RZ:Ro V9 (V12.set ta (.list (vs'++ws++ [.ref qa]))):=fun a r q=>RT _ _ (LL.ro _ _ q)
  have mm:=m.keep LL
  refine sI mm fun x kk e ne mp1 mp2=>?_
  have htx:ta≠x:=fun q=>by rw[q,mp1]at hta12;cases hta12
  have hE1:=mj (fun g hg=>(hzk1 g hg).1) p1.2 kh1
  have hE2:=mj (fun g hg=>(hzk2 g hg).1) p1.2 kh2
  refine(fun _ κ=>κ ((L.trans LL.nil).touch hta0 hta12 rfl) (fun a r q=>RZ _ _ (R _ _ q)) ⟨x,kk,e,ne,by rw[aA _ _ htx.symm];exact mp1,by rw[aA _ _ htd.symm];exact mp2⟩ (by rfl') (by rfl') (by rfl') (by rfl') (by rfl') (by rfl') (by rfl') (ws++ [.ref qa]) (ks++ [⟨n',gC kh1 ((bX kt1).zip nums) p1.2,gC kh2 ((bX kt2).zip nums) p1.2,p1.1,p2.1⟩]) (by rw[←List.append_assoc];exact aj ..) (by rw[List.length_append,hkl];rfl) (Paired.snoc' (Paired.imp (fun _ _ q=>q.mono RZ) hws) ⟨qa,tv1,tv2,d1,d2,ep1,ep2,rfl,RT _ _ h12,(Rp.up ((x2.mono R).mono RZ) (by lia)),(Rp.up ((x5.mono R).mono RZ) (by lia)),RT _ _ (L12.ro _ _ (L11.ro _ _ hd1)),RT _ _ (L12.ro _ _ hd2)⟩) (?_))
  intro k' hk'
  rcases List.mem_append.mp hk' with q|q
  ·exact hks k' q
  ·simp only[List.mem_singleton]at q
   subst q
   exact⟨⟨hchild,hi1.env,hi2.env,by dsimp only;lia,by dsimp only;lia⟩,rfl⟩
 ·rintro l' V' L R m z1 z2 z3 z4 z5 z6 z7 ws ks htaw hkl hws hks
  walk_at "goT"
  refine⟨ks,by rw[hkl,List.length_map,List.length_range];lia,fun k' hk'=>⟨(hks k' hk').1,by rw[(hks k' hk').2]⟩,fun _ κ=>κ L m z1 z2 (vs'++ws) htaw (Paired.append (Paired.imp (fun _ _ q=>(q.mono R38).mono R) hvs') hws)⟩
theorem qF(KT:HK c){N:Nat}{v1 v2:Value}{t1 t2:ai}(r1:Rp (N+1) V v1 t1)(r2:Rp (N+1) V v2 t2)(ha:AL n [] [] t1 t2)(hn:n<=100)(h:∀V',Le [] V V'->Q (.bool true) V'):ab c 8 (.ref 625) [v1,v2] V Q:=by
 refine eC (x0:="one") (x1:="other") KT ?_
 intro env K
 try dsimp only at K
 walk_at "goT"
 refine ab.at (Aj (d:=0) KT fun x dx hx hd hne=>?_) (by lia)
 have L1:Le [] V (eV V x dx 614 [("many",.int 0 0)]):=uJ hx hd hne
 have m1:mq (eV V x dx 614 [("many",.int 0 0)]) (.ref x) dx:=⟨x,0,rfl,hne,lw,nh hne⟩
 refine kS (af lw) (af (nh hne)) rfl (d8 KT (fT _)) (by rw[KT];exact qW _) (by rw[KT];exact qX _) ⟨bJ KT (zq _),?_⟩
 walk_at "goT"
 refine ab.at (A0 KT m1 (r1.mono L1.ro) (r2.mono L1.ro) ha hn fun V2 L2=>?_) (by lia)
 walk_at "goT"
 exact h _ (L1.absorb L2 hd)
end
noncomputable def nR:List (Str×ai):=jl.map fun q=>(q.1,ai.lam q.2.1 q.2.2)
noncomputable def vM:ai:= .lam ["r.a","r.b"] (.prim "intAdd" [.var "r.a",.var "r.b"])
noncomputable def qG:ai:= .lam ["q.a","q.b"] (.case (.var "q.a") "q.c" [(0,.var "q.b")] (some (.lit 1)))
noncomputable def sE:ai:= .lam ["s.a"] (.prim "error" [.var "s.a"])
noncomputable def vN:ai:= .lam ["t.a"] (.con "C" [.var "t.a"])
theorem mt:nR=([("add",vM),("look",qG),("stop",sE),("cell",vN)]:List (Str×ai)):=rfl
section
variable{c:Cx}{d n:Nat}{env:Env}{l:au}{V:St}{p pos:Pos}{Q:Value->St->Prop}{QB:Bool->St->Prop}{QF:Fl->au->St->Prop}{QL:au->St->Prop}{ns:List (Str×NameKind)}
set_option maxHeartbeats 4000000 in
theorem xV(KT:HK c)(h:∀a vs V',Le [] V V'->V' a=some (.ro (.list vs))->PySem.Paired (gj 8 V') vs nR->Q (.ref a) V'):ab c 4 (.ref 803) [] V Q:=by
 refine ab.frz (CP KT ?_)
 intro env K
 try dsimp only at K
 let F:I2:=fun l1 V1 G=>Le [] V V1->∀v,Lk l1 "look" v->Rp 4 V1 v (.case (.var "q.a") "q.c" [(0,.var "q.b")] (some (.lit 1)))->G
 refine aC F ?_ ?_
 ·intro _ _
  ac_rfl
  refine ab.at (iJ (d:=0) KT fun w1 V1 L1 h1=>?_) (by lia)
  ac_rfl
  refine⟨bW rfl,fun ka V2 L2 hka h2=>?_⟩
  ac_rfl
  refine⟨bW rfl,fun ea V3 L3 hea h3=>?_⟩
  ac_rfl
  refine ab.at (iJ (d:=0) KT fun w2 V4 L4 h4=>?_) (by lia)
  ac_rfl
  refine ab.at (oV (d:=0) KT fun w3 V5 L5 h5=>?_) (by lia)
  ac_rfl
  refine⟨bW rfl,fun la V6 L6 hla h6=>?_⟩
  ac_rfl
  refine ab.at (q9 (d:=0) KT fun w4 V7 L7 h7=>?_) (by lia)
  ac_rfl
  refine ab.at (hN (d:=0) KT fun w5 V8 L8 h8=>?_) (by lia)
  ac_rfl
  have A68:=L7.trans L8
  have A58:=L6.trans A68
  have A48:=L5.trans A58
  have A38:=L4.trans A48
  have A28:=L3.trans A38
  have A18:=L2.trans A28
  exact fun _ κ=>κ (L1.trans A18) w5 (by rfl') ⟨w1,la,[w3],w4,h8,(Rp.mkV (h1.mono A18.ro):Rp (2+1) _ _ _),A68.ro _ _ h6,.cons ⟨ka,ea,w2,h5.mono A58.ro,A28.ro _ _ h2,A38.ro _ _ h3,(Rp.mkV (h4.mono A48.ro):Rp (2+1) _ _ _)⟩ .nil,(Rp.mkL (h7.mono L8.ro):Rp (2+1) _ _ _)⟩
 rintro l1 V1 L1 v b1 hv
 let F:I2:=fun l2 V2 G=>Le [] V V2->∀ba vs,Lk l2 "binds" (.ref ba)->V ba=none->V2 ba=some (.list vs)->PySem.Paired (gj 8 V2) vs [("add",vM),("look",qG)]->G
 refine aC F ?_ ?_
 ·intro _ _
  walk_at "me"
  refine qJ ?_
  ac_rfl
  refine⟨bW rfl,fun pa V2 L2 hpa h2=>?_⟩
  ac_rfl
  refine ab.at (iJ (d:=0) KT fun w1 V3 L3 h3=>?_) (by lia)
  ac_rfl
  refine ab.at (iJ (d:=0) KT fun w2 V4 L4 h4=>?_) (by lia)
  ac_rfl
  refine⟨bW rfl,fun la V5 L5 hla h5=>?_⟩
  ac_rfl
  refine ab.at (jH (d:=0) KT fun w3 V6 L6 h6=>?_) (by lia)
  ac_rfl
  refine ab.at (iO (d:=0) KT fun w4 V7 L7 h7=>?_) (by lia)
  ac_rfl
  refine⟨bW rfl,fun ta V8 L8 hta h8=>?_⟩
  ac_rfl
  refine⟨bW rfl,fun pb V9 L9 hpb h9=>?_⟩
  ac_rfl
  refine ab.at (iO (d:=0) KT fun w5 V10 L10 h10=>?_) (by lia)
  ac_rfl
  refine⟨bW rfl,fun tb V11 L11 htb h11=>?_⟩
  ac_rfl
  refine⟨bW rfl,fun ba hba=>?_⟩
  ac_rfl
  have L12:Le [] V11 (V11.set ba (.list [.ref ta,.ref tb])):= .new hba
  have A10:=L11.trans L12
  have A9:=L10.trans A10
  have A8:=L9.trans A9
  have A7:=L8.trans A8
  have A6:=L7.trans A7
  have A5:=L6.trans A6
  have A4:=L5.trans A5
  have A3:=L4.trans A4
  have A2:=L3.trans A3
  have A1:=L2.trans A2
  have hba0:V ba=none:=(L1.trans (L2.trans (L3.trans (L4.trans (L5.trans (L6.trans (L7.trans (L8.trans (L9.trans (L10.trans L11)))))))))).none0 hba nn
  exact(fun _ k=>k (L1.trans A1) ba ([.ref ta,.ref tb]) (by rfl') hba0 (aj ..) (.cons ⟨ta,w4,rfl,A8.ro _ _ h8,pa,w3,h7.mono A7.ro,A2.ro _ _ h2,la,[w1,w2],h6.mono A6.ro,A5.ro _ _ h5,.cons (Rp.mkV (h3.mono A3.ro):Rp (5+1) _ _ _) (.cons (Rp.mkV (h4.mono A4.ro):Rp (5+1) _ _ _) .nil)⟩ (.cons ⟨tb,w5,rfl,L12.ro _ _ h11,pb,v,h10.mono A10.ro,A9.ro _ _ h9,Rp.up (hv.mono A1.ro) (by decide)⟩ .nil)))
 rintro l2 V2 L2 ba vs b2 hba0 hba hvs
 have hvl:=hvs.length
 let F:I2:=fun l3 V3 G=>Le [] V V3->Lk l3 "binds" (.ref ba)->∀vs,V3 ba=some (.list vs)->PySem.Paired (gj 8 V3) vs (([("add",vM),("look",qG)]:List (Str×ai))++([("stop",sE)]:List (Str×ai)))->G
 refine aC F ?_ ?_
 ·intro _ _
  ac_rfl
  refine dT hba ⟨trivial,?_⟩
  ac_rfl
  refine⟨bW rfl,fun pa V3 L3 hpa h3=>?_⟩
  ac_rfl
  refine ab.at (iJ (d:=0) KT fun w1 V4 L4 h4=>?_) (by lia)
  ac_rfl
  refine⟨bW rfl,fun la V5 L5 hla h5=>?_⟩
  ac_rfl
  refine ab.at (jH (d:=0) KT fun w3 V6 L6 h6=>?_) (by lia)
  ac_rfl
  refine ab.at (iO (d:=0) KT fun w4 V7 L7 h7=>?_) (by lia)
  ac_rfl
  refine⟨bW rfl,fun ta V8 L8 hta h8=>?_⟩
  ac_rfl
  have A7:=L8
  have A6:=L7.trans A7
  have A5:=L6.trans A6
  have A4:=L5.trans A5
  have A3:=L4.trans A4
  have A2:=L3.trans A3
  have hba8:=A2.at0 hba
  refine dU hba8 (by rw[hvl,sizeLine_eq];decide) ?_
  ac_rfl
  have RT:=cj (o':= .list (vs++ [.ref ta])) hba8 rfl
  refine(fun _ k=>k ((L2.trans A2).touch hba0 hba8 rfl) (by rfl') (vs++ [.ref ta]) (aj ..) (Paired.append (Paired.imp (fun _ _ q=>(q.mono A2.ro).mono RT) hvs) (.cons (gj.mono ?_ RT) .nil)))
  exact⟨ta,w4,rfl,h8,pa,w3,h7.mono A7.ro,A3.ro _ _ h3,la,[w1],h6.mono A6.ro,A5.ro _ _ h5,.cons (Rp.mkV (h4.mono A4.ro):Rp (5+1) _ _ _) .nil⟩
 rintro l3 V3 L3 b3 vs3 hba3 hvs3
 have hvl3:=hvs3.length
 ac_rfl
 refine dT hba3 ⟨trivial,?_⟩
 ac_rfl
 refine⟨bW rfl,fun pa V4 L4 hpa h4=>?_⟩
 ac_rfl
 refine ab.at (iJ (d:=0) KT fun w1 V5 L5 h5=>?_) (by lia)
 ac_rfl
 refine⟨bW rfl,fun la V6 L6 hla h6=>?_⟩
 ac_rfl
 refine ab.at (oW (d:=0) KT fun w3 V7 L7 h7=>?_) (by lia)
 ac_rfl
 refine ab.at (iO (d:=0) KT fun w4 V8 L8 h8=>?_) (by lia)
 ac_rfl
 refine⟨bW rfl,fun ta V9 L9 hta h9=>?_⟩
 ac_rfl
 have A8:=L9
 have A7:=L8.trans A8
 have A6:=L7.trans A7
 have A5:=L6.trans A6
 have A4:=L5.trans A5
 have A3:=L4.trans A4
 have hba9:=A3.at0 hba3
 refine dU hba9 (by rw[hvl3,sizeLine_eq];decide) ?_
 ac_rfl
 have RT:=cj (o':= .list (vs3++ [.ref ta])) hba9 rfl
 refine⟨[ba],h ba (vs3++ [.ref ta]) _ (aR ((L3.trans A3).touch hba0 hba9 rfl) (by simpa using hba0)) (aN List.mem_cons_self (aj ..) rfl) ?_⟩
 rw[mt]
 refine Paired.imp (fun _ _ q=>gj.mono q (aD _ _)) (Paired.append (Paired.imp (fun _ _ q=>(q.mono A3.ro).mono RT) hvs3) (.cons (gj.mono ?_ RT) .nil))
 exact⟨ta,w4,rfl,h9,pa,w3,h8.mono A8.ro,A4.ro _ _ h4,la,[w1],h7.mono A7.ro,A6.ro _ _ h6,.cons (Rp.mkV (h5.mono A5.ro):Rp (5+1) _ _ _) .nil⟩
end
noncomputable def eU(t:ai):List (Str×ai):=[("add",vM),("look",qG),("stop",sE),("cell",vN),("main",(ak ay 8 0 t).1)]
theorem Ba(t:ai):(bO (ak ay 8) 0 (bU t)).1=eU t:=rfl
theorem sF(t:ai):bU t=nR++([("main",t)]:List (Str×ai)):=rfl
theorem xW:∀p∈nR,AL 5 [] [] p.2 p.2:=by
 intro p hp
 rw[mt]at hp
 simp only[List.mem_cons,List.mem_nil_iff,or_false]at hp
 rcases hp with rfl|rfl|rfl|rfl
 ·exact⟨rfl,by decide,fun ks _=>⟨rfl,by decide,.cons rfl (.cons rfl .nil)⟩⟩
 ·exact⟨rfl,by decide,fun ks _=>⟨by decide,rfl,fun k=>⟨.cons ⟨rfl,rfl⟩ .nil,rfl⟩⟩⟩
 ·exact⟨rfl,by decide,fun ks _=>⟨rfl,by decide,.cons rfl .nil⟩⟩
 ·exact⟨rfl,by decide,fun ks _=>⟨rfl,by decide,.cons rfl .nil⟩⟩
theorem xX{t:ai}(h:Wf 8 t):∀p∈bU t,Wf 8 p.2:=by
 intro p hp
 rw[sF]at hp
 rcases List.mem_append.mp hp with q|q
 ·refine be (List.mem_map.mp q) fun r hr z2=>?_;subst z2
  exact sj r hr
 ·simp at q;subst q;exact h
theorem Cg{n:Nat}{V:St}:∀{rs:List Value} {ps:List (Str×ai)},PySem.Paired (gj n V) rs ps->∃kvs:Kv,PySem.Paired (fun v (p:Str×Value)=>∃q,v= .ref q/\rd V q=some (.tup [.str p.1 0,p.2])) rs kvs/\PySem.Paired (fun(a:Str×Value) (p:Str×ai)=>a.1=p.1/\Rp n V a.2 p.2) kvs ps:=by
 intro rs ps p
 induction p with
 |nil=>exact⟨[],.nil,.nil⟩
 |cons a r ih=>
  refine dl a fun q tv e h1 h2=>?_
  refine be ih fun kvs g1 g2=>?_
  exact⟨(_,tv)::kvs,.cons ⟨q,e,af h1⟩ g1,.cons ⟨rfl,h2⟩ g2⟩
theorem xY{n:Nat}{V:St}{t:ai}{kvs:Kv}(h:PySem.Paired (fun(a:Str×Value) (p:Str×ai)=>a.1=p.1/\Rp n V a.2 p.2) kvs (eU t)):
  ∃v1 v2 v3 v4 v5,kvs=([("add",v1),("look",v2),("stop",v3),("cell",v4),("main",v5)]:Kv)/\Rp n V v1 vM/\Rp n V v2 qG/\Rp n V v3 sE/\Rp n V v4 vN/\Rp n V v5 (ak ay 8 0 t).1:=by
 unfold eU at h
 cases h with|cons a1 r1=>cases r1 with|cons a2 r2=>cases r2 with|cons a3 r3=>cases r3 with|cons a4 r4=>cases r4 with|cons a5 r5=>cases r5 with
 |nil=>
  rename_i x1 x2 x3 x4 x5
  obtain⟨y1,v1⟩:=x1;obtain⟨y2,v2⟩:=x2;obtain⟨y3,v3⟩:=x3;obtain⟨y4,v4⟩:=x4;obtain⟨y5,v5⟩:=x5
  dsimp only at a1 a2 a3 a4 a5
  obtain⟨rfl,a1⟩:=a1;obtain⟨rfl,a2⟩:=a2;obtain⟨rfl,a3⟩:=a3;obtain⟨rfl,a4⟩:=a4;obtain⟨rfl,a5⟩:=a5
  exact⟨v1,v2,v3,v4,v5,rfl,a1,a2,a3,a4,a5⟩
noncomputable def sG(v1 v2 v3 v4 v5:Value):Kv:=[("add",v1),("look",v2),("stop",v3),("cell",v4),("main",v5)]
theorem xZ(v1 v2 v3 v4 v5:Value):merged [] (sG v1 v2 v3 v4 v5)=sG v1 v2 v3 v4 v5:=by kernel_rfl
theorem pq:PyData.canLayAll0 ((["add","look","stop","cell","main"]:List Str).map .str)=true:=by decide+kernel
noncomputable def il:List Str:=["add","look","stop","cell","main"]
section
variable{c:Cx}{d n:Nat}{env:Env}{l:au}{V:St}{p pos:Pos}{Q:Value->St->Prop}{QB:Bool->St->Prop}{QF:Fl->au->St->Prop}{QL:au->St->Prop}{ns:List (Str×NameKind)}
theorem x7{a b:Expr}(h:E c d env l a V fun x V1=>E c d env l b V1 fun y V2=>∃a1 vs a2 ws,x= .ref a1/\y= .ref a2/\rd V2 a1=some (.list vs)/\rd V2 a2=some (.list ws)/\vs.length+ws.length<=1000000/\∀r V',Le [] V2 V'->V2 r=none->V' r=some (.ro (.list (vs++ws)))->Q (.ref r) V'):
  E c d env l (.BinOp a .Add b p) V Q:=
 E.frz (yg (h.mono fun x V1 q0=>q0.mono fun y V2 q1=>by
  obtain⟨a1,vs,a2,ws,e1,e2,h1,h2,hz,q⟩:=q1
  subst e1;subst e2
  exact dW h1 h2 hz fun r hr=>⟨[r],q r _ (aR (.new hr) (by simpa using hr)) hr (aN List.mem_cons_self (aj ..) rfl)⟩))
set_option maxHeartbeats 8000000 in
theorem x8(KT:HK c){sa:Addr}{is:List Int}{o:cq}(h1:V sa=some o)(h1':rd V sa=some (.rlist (is.map fun i=> .int i 0))∨rd V sa=some (.list (is.map fun i=> .int i 0)))(hl:is.length<=1000)(hF:tO V)(hK:tB V)
  (h:∀V',Q (.bool true) V'):ab c 450 (.ref 859) [.ref sa] V Q:=by
 refine cZ (x0:="script") KT ?_
 intro env K
 try dsimp only at K
 let F:I2:=fun l1 V1 G=>Le [] V V1->∀src box,Lk l1 "source" (.ref src)->Lk l1 "box" (.ref box)->jn V1 src->fc V1 box 0->src≠box->G
 refine aC F ?_ ?_
 ·intro _ _
  walk_at "goU"
  refine ab.at (xI KT h1 h1' hl fun src V1 hs0 L1 s1=>?_) (by lia)
  walk_at "goU"
  refine⟨_,rfl,fun box ep hbx=>?_⟩
  ac_rfl
  have L2:Le [] V1 (V1.set box (.dict [("many",.int 0 0)] ep)):= .new hbx
  have hsb:src≠box:=fun q=>by obtain⟨_,_,s1,_⟩:=s1;rw[q,hbx]at s1;cases s1
  exact(fun _ k=>k (L1.trans L2) src box (by rfl') (by rfl') (s1.keep L2) ⟨ep,aj ..⟩ hsb)
 rintro l1 V1 L1 src box b1 b2 s1 x1 hsb
 let F:I2:=fun l2 V2 G=>Le [src,box] V1 V2->Lk l2 "box" (.ref box)->∀t v m,Lk l2 "expr" v->fc V2 box m->m<=10->Rp 6 V2 v t->Gd 6 0 t->bh t≠183->G
 refine aC F ?_ ?_
 ·intro _ _
  ac_rfl
  refine⟨bW rfl,fun na V2 L2 hna h2=>?_⟩
  ac_rfl
  refine ab.at (su KT 2 (m:=0) (xs:=["x","y","z"]) (s1.keep L2) (x1.keep L2) hsb ⟨_,h2,rfl⟩ (gg s1 x1 hna) (by decide) (by decide) (by decide+kernel) (by decide) fun t v m V3 L3 s3 x3 _ hm hr hg hc=>?_) (by lia)
  ac_rfl
  exact(fun _ k=>k (L2.nil.trans L3) (by rfl') t v m (by rfl') x3 (by have:kr 2=8:=rfl;lia) hr hg hc)
 rintro l2 V2 L2 d1 t v m d2 x2 hm hr hg hc
 have hF2:tO V2:=(hF.mono L1.ro).mono L2.ro
 have hK2:tB V2:=(hK.mono L1.ro).mono L2.ro
 clear hF hK h1 h1' L1 L2 s1 x1 b1 b2
 let F:I2:=fun l3 V3 G=>Le [] V2 V3->Lk l3 "box" (.ref box)->Lk l3 "expr" v->Lk l3 "ahead" (.str (eT 6 t) 0)->∀ta vs,Lk l3 "tops" (.ref ta)->V3 ta=some (.ro (.list vs))->PySem.Paired (gj 8 V3) vs nR->G
 refine aC F ?_ ?_
 ·intro _ _
  ac_rfl
  refine ab.at (pk KT 6 (Nat.le_refl _) hr hg.tx hK2 fun V3 L3 _=>?_) (by lia)
  ac_rfl
  refine ab.at (xV KT fun ta vs V4 L4 h4 hp=>?_) (by lia)
  ac_rfl
  exact(fun _ k=>k (L3.trans L4) (by rfl') (by rfl') (by rfl') ta vs (by rfl') h4 hp)
 rintro l3 V3 L3 e1 e2 e3 ta vs e4 hta hvs
 have x3:=x2.keep L3
 let F:I2:=fun l4 V4 G=>Le [] V3 V4->Lk l4 "box" (.ref box)->Lk l4 "expr" v->Lk l4 "ahead" (.str (eT 6 t) 0)->Lk l4 "tops" (.ref ta)->∀fv nd,Lk l4 "fresh" fv->V3 nd=none->gp V4 fv nd 0->G
 refine aC F ?_ ?_
 ·intro _ _
  ac_rfl
  refine⟨bW rfl,fun na V4 L4 hna h4=>?_⟩
  ac_rfl
  refine ab.at (vh KT (xs:=["x","y","z"]) (af h4) (by decide) fun fv nd V5 L5 hnd0 hfr=>?_) (by lia)
  refine nU hfr fun ad ae ne f1 f2 f3=>?_
  ac_rfl
  exact(fun _ k=>k (L4.trans L5) (by rfl') (by rfl') (by rfl') (by rfl') fv nd (by rfl') (L4.none0 hnd0 nn) ⟨ad,ae,ne,f1,f2,f3⟩)
 clear e1 e2 e3 e4
 rintro l4 V4 L4 e1 e2 e3 e4 fv nd e5 hnd0 hfr
 have L24:=L3.trans L4
 have hbn:box≠nd:=fun q=>by obtain⟨_,x3⟩:=x3;rw[q,hnd0]at x3;cases x3
 let F:I2:=fun l5 V5 G=>Le [nd] V4 V5->Lk l5 "box" (.ref box)->Lk l5 "expr" v->Lk l5 "ahead" (.str (eT 6 t) 0)->Lk l5 "tops" (.ref ta)->∀lv lb rs w1,Lk l5 "later" lv->IA V5 lv 383 [("binds",.ref lb),("cons",w1),("main",.str "main" 0)]->V5 lb=some (.ro (.list rs))->PySem.Paired (gj 24 V5) rs (eU t)->G
 refine aC F ?_ ?_
 ·intro _ _
  walk_at "goA"
  refine⟨bW rfl,fun qa V5 L5 hqa h5=>?_⟩
  walk_at "goA"
  refine⟨bW rfl,fun la V6 L6 hla h6=>?_⟩
  have hvl:=hvs.length
  have L46:=L5.trans L6
  refine⟨ta,vs,la,[.ref qa],rfl,rfl,af ((L4.trans L46).ro _ _ hta),af h6,by rw[hvl];show 4+1<=1000000;decide,fun pb V7 L7 hpb h7=>?_⟩
  walk_at "goA"
  intro ca ce V8 L8 hca h8
  walk_at "goA"
  refine ab.at (uK (d:=0) KT fun pv V9 L9 h9=>?_) (by lia)
  walk_at "goA"
  have A6:=L7.trans (L8.trans L9)
  have A5:=L6.trans A6
  have A4:=L5.trans A5
  have hpp:PySem.Paired (gj 8 V9) (vs++ [.ref qa]) (bU t):=by
   rw[sF]
   exact Paired.append (Paired.imp (fun _ _ q=>q.mono (L4.trans A4).ro) hvs) (.cons ⟨qa,v,rfl,A5.ro _ _ h5,(hr.mono (L24.trans A4).ro).up (by decide)⟩ .nil)
  refine ab.at (tg KT h9 ((L8.trans L9).ro _ _ h7) hpp (by simpa using hc) (xX (hg.up (by decide)).wf) (hfr.keep A4) rfl rfl fun r V10 lb rs L10 i1 i2 i3=>?_) (by lia)
  rw[Ba]at i3
  walk_at "goA"
  exact(fun _ k=>k (A4.nil.trans L10) (by rfl') (by rfl') (by rfl') (by rfl') r lb rs (.ref ca) (by rfl') i1 i2 i3)
 clear e1 e2 e3 e4 e5
 rintro l5 V5 L5 e1 e2 e3 e4 lv lb rs w1 e5 i1 i2 i3
 have x5:=(x3.keep L4).keepM L5 (by simpa using hbn)
 have R25:Ro V2 V5:=fun a r q=>L5.ro _ _ (L24.ro _ _ q)
 have R35:Ro V3 V5:=fun a r q=>L5.ro _ _ (L4.ro _ _ q)
 have hF5:=hF2.mono R25
 have hK5:=hK2.mono R25
 have hr5:=hr.mono R25
 have hta5:=R35 _ _ hta
 have hvs5:=Paired.imp (fun _ _ q=>gj.mono q R35) hvs
 clear hF2 hK2 hr hta hvs x2 x3 L3 L4 L5 L24 R25 R35 hfr hnd0 hbn
 let F:I2:=fun l6 V6 G=>Le [] V5 V6->Lk l6 "box" (.ref box)->Lk l6 "expr" v->Lk l6 "ahead" (.str (eT 6 t) 0)->Lk l6 "tops" (.ref ta)->Lk l6 "later" lv->G
 refine aC F ?_ ?_
 ·intro _ _
  ac_rfl
  refine ao i1 KT (dZ _) (d0 _) rfl rfl ?_
  refine⟨_,ax (af i2),fun cenv CK=>?_⟩
  let F:I4:=fun i acc l' V' G=>Le [] V5 V'->(acc= .l (((eU t).take i).map fun p=>aJ p.1))->G
  refine aq rs F ?_ ?_ ?_ rs.length 0 (Nat.zero_add _) (by exact fun _ k=>k (.refl ..) rfl)
  ·rintro i acc l' V' L _
   exact aE (af (L.ro _ _ i2)) i
  ·rintro i w acc l' V' hv R hR L rfl
   refine be (Paired.get i3 hv) fun z0 hx zr=>?_;refine dl zr fun q tv z4 g1 g2=>?_;obtain⟨x,u⟩:=z0;subst z4
   refine dp (af (L.ro _ _ g1)) rfl rfl ?_
   ac_rfl
   have hol:(eU t).length=5:=rfl
   refine⟨by rw[List.length_map,List.length_take];exact sz (by lia),(hR _ _ _ _ fun _ k=>k L ?_)⟩
   rw[am hx,List.map_append];rfl
  ·rintro acc l' V' L rfl
   rw[show(eU t).take rs.length=eU t from List.take_of_length_le (by rw[i3.length];exact Nat.le_refl _)]
   refine⟨_,rfl,fun la V6 L6 hla h6=>?_⟩
   ac_rfl
   refine⟨bW rfl,fun lc V7 L7 hlc h7=>?_⟩
   have D1:g9 V7 (.ref la) (.list (il.map .str)):= .list (af (L7.ro _ _ h6)) (iw il)
   have D2:g9 V7 (.ref lc) (.list (il.map .str)):= .list (af h7) (iw il)
   refine ub D1 D2 pq pq (Nat.le_trans (Nat.min_le_left _ _) (by show PyData.depthAll _+1<=_;rw[iT];lia)) ?_
   rw[SeqAt.eqv_refl (.list (il.map .str)) pq]
   ac_rfl
   have LL:=L.trans (L6.trans L7)
   refine ao (i1.mono LL.ro) KT (dZ _) (hH _) rfl rfl ?_
   ac_rfl
   refine t9 ?_
   rw[bne_self_eq_false]
   ac_rfl
   exact(fun _ k=>k LL (by rfl') (by rfl') (by rfl') (by rfl') (by rfl'))
 clear e1 e2 e3 e4 e5
 rintro l6 V6 L6 e1 e2 e3 e4 e5
 refine be (Cg (Paired.imp (fun _ _ q=>gj.mono q L6.ro) i3)) fun kvs k1 k2=>?_
 obtain⟨v1,v2,v3,v4,v5,rfl,r1,r2,r3,r4,r5⟩:=xY k2
 let F:I2:=fun l7 V7 G=>Le [] V6 V7->Lk l7 "box" (.ref box)->Lk l7 "expr" v->Lk l7 "ahead" (.str (eT 6 t) 0)->Lk l7 "tops" (.ref ta)->∀da ep,Lk l7 "told" (.ref da)->V7 da=some (.dict (sG v1 v2 v3 v4 v5) ep)->G
 refine aC F ?_ ?_
 ·intro _ _
  ac_rfl
  refine ao (i1.mono L6.ro) KT (dZ _) (d0 _) rfl rfl ?_
  ac_rfl
  refine jg (af (L6.ro _ _ i2)) k1 (by simp) fun da ep hda=>?_
  ac_rfl
  refine(fun _ k=>k (.new hda) (by rfl') (by rfl') (by rfl') (by rfl') da ep (by rfl') ?_)
  rw[←xZ]
  exact aj ..
 clear e1 e2 e3 e4 e5
 rintro l7 V7 L7 e1 e2 e3 e4 da ep e5 hda
 have L57:=L6.trans L7
 have hta7:=L57.ro _ _ hta5
 have hvs7:=Paired.imp (fun _ _ q=>gj.mono q L57.ro) hvs5
 have q1:=r1.mono L7.ro
 have q2:=r2.mono L7.ro
 have q3:=r3.mono L7.ro
 have q4:=r4.mono L7.ro
 have q5:=r5.mono L7.ro
 have hat:∀p∈nR,∃w,(sG v1 v2 v3 v4 v5).lookup p.1=some w/\Rp 24 V7 w p.2:=by
  intro p hp
  rw[mt]at hp
  simp only[List.mem_cons,List.mem_nil_iff,or_false]at hp
  rcases hp with rfl|rfl|rfl|rfl
  ·exact⟨v1,by kernel_rfl,q1⟩
  ·exact⟨v2,by kernel_rfl,q2⟩
  ·exact⟨v3,by kernel_rfl,q3⟩
  ·exact⟨v4,by kernel_rfl,q4⟩
 let F:I2:=fun l8 V8 G=>Le [] V7 V8->Lk l8 "box" (.ref box)->Lk l8 "expr" v->Lk l8 "ahead" (.str (eT 6 t) 0)->Lk l8 "told" (.ref da)->G
 refine aC F ?_ ?_
 ·intro _ _
  ac_rfl
  refine⟨_,ax (af hta7),fun cenv CK=>?_⟩
  let F:I4:=fun i acc l' V' G=>Le [] V7 V'->Lk l' "told" (.ref da)->acc= .l []->G
  refine aq vs F ?_ ?_ ?_ vs.length 0 (Nat.zero_add _) (by exact fun _ k=>k (.refl ..) (by rfl') rfl)
  ·rintro i acc l' V' L - -
   exact aE (af (L.ro _ _ hta7)) i
  ·rintro i w acc l' V' hv R hR L y1 rfl
   refine be (Paired.get hvs7 hv) fun z0 hx zr=>?_;refine dl zr fun q tv z4 g1 g2=>?_;obtain⟨x,u⟩:=z0;subst z4
   have hmem:=List.mem_of_getElem? hx
   refine be (hat _ hmem) fun w hw1 hw2=>?_
   refine dp (af (L.ro _ _ g1)) rfl rfl ?_
   ac_rfl
   refine⟨dw (af (L.at0 hda)),dS (v:=w) (af (L.at0 hda)) hw1 ?_⟩
   ac_rfl
   refine ab.at (qF KT (N:=23) (hw2.mono L.ro) ((g2.mono L.ro).up (by decide)) (xW _ hmem) (by decide) fun V8 L8=>?_) (by lia)
   ac_rfl
   exact(fun _ k=>k (L.trans L8) (by rfl') rfl)
  ·rintro acc l' V' L y1 rfl
   refine⟨[],rfl,fun la V8 L8 hla h8=>?_⟩
   ac_rfl
   refine⟨bW rfl,fun lc V9 L9 hlc h9=>?_⟩
   have D1:g9 V9 (.ref la) (.list []):= .list (af (L9.ro _ _ h8)) .nil
   have D2:g9 V9 (.ref lc) (.list []):= .list (af h9) .nil
   refine ub D1 D2 rfl rfl (Nat.le_trans (Nat.min_le_left _ _) (by show 0+1<=_;lia)) ?_
   rw[SeqAt.eqv_refl (.list []) rfl]
   ac_rfl
   exact(fun _ k=>k (L.trans (L8.trans L9)) (by rfl') (by rfl') (by rfl') (by rfl'))
 clear e1 e2 e3 e4 e5
 rintro l8 V8 L8 e1 e2 e3 e4
 have L58:=L57.trans L8
 have hcnt:m+bQ 8<=50000000:=fQ (Nat.add_le_add hm (show bQ 8<=20000000 by decide+kernel)) rfl
 ac_rfl
 refine⟨dw (af (L8.at0 hda)),dS (v:=v5) (af (L8.at0 hda)) (by kernel_rfl) ?_⟩
 ac_rfl
 refine ab.at (vt KT 8 ((hr5.mono L58.ro).up (by decide)) (hg.up (by decide)) (hF5.mono L58.ro) (x5.keep L58) hcnt fun r V9 L9 hr9 x9=>?_) (by omega)
 ac_rfl
 refine ab.at (qF KT (N:=23) ((q5.mono L8.ro).mono L9.ro) hr9 (tu 8 0 t (hg.up (by decide)) 0 m [] [] (fun x _=>rfl)) (by decide) fun V10 L10=>?_) (by lia)
 ac_rfl
 have R510:Ro V5 V10:=fun a r q=>L10.ro _ _ (L9.ro _ _ (L58.ro _ _ q))
 refine ab.at (pk KT 6 (Nat.le_refl _) (hr5.mono R510) hg.tx (hK5.mono R510) fun V11 L11 _=>?_) (by lia)
 ac_rfl
 refine iH ?_
 rw[beq_self_eq_true]
 ac_rfl
 exact h _
end
noncomputable def Bb:List (Str×Value):=[("add",.ref 805),("look",.ref 806),("stop",.none),("cell",.ref 807)]
noncomputable def cY(sa:Addr)(is:List Int):St:=fun a=>
 if a=sa then some (.ro (.rlist (is.map fun i=> .int i 0)))
 else if a=804 then some (.ro (.dict Bb 4))
 else if a=805 then some (.ro (.list [.bool true,.bool true]))
 else if a=806 then some (.ro (.list [.bool true,.bool false]))
 else if a=807 then some (.ro (.list [.bool false]))
 else if a=659 then some (.ro (.tup (AF.map aJ)))
 else none
theorem nS(sa:Addr)(is:List Int)(a:Addr):cY sa is a=none∨∃r,cY sa is a=some (.ro r):=by
 unfold cY
 split
 ·exact .inr ⟨_,rfl⟩
 split
 ·exact .inr ⟨_,rfl⟩
 split
 ·exact .inr ⟨_,rfl⟩
 split
 ·exact .inr ⟨_,rfl⟩
 split
 ·exact .inr ⟨_,rfl⟩
 split
 ·exact .inr ⟨_,rfl⟩
 ·exact .inl rfl
noncomputable def Bc(P:Params):Array DictEntry:= #[
 {hash:=PyData.keyHash P "add",key:= .str "add" 1264,val:= .ref 805},
 {hash:=PyData.keyHash P "look",key:= .str "look" 1265,val:= .ref 806},
 {hash:=PyData.keyHash P "stop",key:= .str "stop" 1266,val:= .none},
 {hash:=PyData.keyHash P "cell",key:= .str "cell" 1267,val:= .ref 807}]
theorem vO(P:Params):(Hp P).lookup 804=some {cls:= .type "dict",data:= .dict (Bc P) 4}:=by kernel_rfl
theorem vP(P:Params):(Hp P).lookup 805=some {cls:= .type "list",data:= .seq #[.bool true,.bool true]}:=by kernel_rfl
theorem vQ(P:Params):(Hp P).lookup 806=some {cls:= .type "list",data:= .seq #[.bool true,.bool false]}:=by kernel_rfl
theorem vR(P:Params):(Hp P).lookup 807=some {cls:= .type "list",data:= .seq #[.bool false]}:=by kernel_rfl
noncomputable def Ch:Array Value:= #[.str "int" 1070,.str "char" 1071,.str "app" 1072,.str "lam" 1073,.str "let" 1074,.str "letrec" 1075,.str "case" 1076,.str "of" 1077,.str "is" 1078,.str "else" 1079,.str "con" 1080,.str "prim" 1081,.str "program" 1082]
theorem vS(P:Params):(Hp P).lookup 659=some {cls:= .type "tuple",data:= .seq Ch}:=by kernel_rfl
theorem ya:Ch.toList.map er=AF.map aJ:=by decide+kernel
theorem yb:∀{vs:List Value} {is:List Int},IntsAre vs is->vs.map er=is.map fun i=> .int i 0:=by
 intro vs is q
 induction q with
 |nil=>rfl
 |cons n t _ ih=>rw[List.map_cons,List.map_cons,ih];rfl
theorem jU{vs:List Value}{is:List Int}{b:Bool}(h:IntsAre vs is): .bool b∉vs:=by
 intro hm
 induction h with
 |nil=>cases hm
 |cons n t r ih=>
  rcases List.mem_cons.mp hm with e|e
  ·cases e
  ·exact ih e
theorem im(prog:Program)(w:World)(x:Str)(t:Tok):(PySem.strKind prog w).is x (.str x t)=true:=by
 show Value.isStrOf x (.str x t)=true
 simp[Value.isStrOf]
theorem vT(prog:Program)(w:World){h:Heap}(X:(Hp w.params).In h):h.DictAt (PySem.strKind prog w) 804 Bb 4:=by
 refine⟨_,_,X _ _ (vO _),⟨rfl,rfl,rfl⟩,rfl,?_,?_,by decide+kernel⟩
 ·intro e he
  have he':e∈(Bc w.params).toList:=by simpa using he
  unfold Bc at he'
  simp only[List.mem_cons,List.mem_nil_iff,or_false]at he'
  rcases he' with rfl|rfl|rfl|rfl
  ·exact⟨"add",im ..,rfl⟩
  ·exact⟨"look",im ..,rfl⟩
  ·exact⟨"stop",im ..,rfl⟩
  ·exact⟨"cell",im ..,rfl⟩
 ·exact .cons (im ..) rfl (.cons (im ..) rfl (.cons (im ..) rfl (.cons (im ..) rfl .nil)))
theorem Ci{w:World}{h:Heap}(X:(Hp w.params).In h){sa:Addr}{vs:List Value}{is:List Int}(hL:h.IsList sa vs.toArray)(hI:IntsAre vs is):
  sa≠804/\sa≠805/\sa≠806/\sa≠807/\sa≠659:=by
 refine iz hL fun o ho hc zr=>?_;refine dP zr fun n hd=>?_
 refine⟨?_,?_,?_,?_,?_⟩<;>rintro rfl
 ·have:=X _ _ (vO _);rw[ho]at this;cases this;cases hd
 ·have:=X _ _ (vP _);rw[ho]at this;cases this;cases hd;exact jU (b:=true) hI List.mem_cons_self
 ·have:=X _ _ (vQ _);rw[ho]at this;cases this;cases hd;exact jU (b:=true) hI List.mem_cons_self
 ·have:=X _ _ (vR _);rw[ho]at this;cases this;cases hd;exact jU (b:=false) hI List.mem_cons_self
 ·have:=X _ _ (vS _);rw[ho]at this;cases this;injection hc with q;exact absurd q (by decide)
theorem Cj(c:Cx)(KT:HK c){sa:Addr}{vs:List Value}{is:List Int}(hL:c.base.IsList sa vs.toArray)(hI:IntsAre vs is):bc c (cY sa is) c.base:=by
 have X:(Hp c.w.params).In c.base:=by have:=c.kin;rw[KT]at this;exact this
 refine⟨?_,fun _ _ e=>e,fun b o e=>nS sa is b⟩
 intro a o e
 unfold cY at e
 split at e
 ·rename_i q;subst q;cases e;exact⟨_,hL,by simpa using yb hI⟩
 split at e
 ·rename_i q;subst q;cases e;exact⟨by decide,_,vT c.prog c.w X,rfl⟩
 split at e
 ·rename_i q;subst q;cases e;exact⟨_,⟨_,X _ _ (vP _)⟩,rfl⟩
 split at e
 ·rename_i q;subst q;cases e;exact⟨_,⟨_,X _ _ (vQ _)⟩,rfl⟩
 split at e
 ·rename_i q;subst q;cases e;exact⟨_,⟨_,X _ _ (vR _)⟩,rfl⟩
 split at e
 ·rename_i q;subst q;cases e;exact⟨_,⟨_,X _ _ (vS _),rfl,_,rfl⟩,ya⟩
 ·cases e
theorem vU(c:Cx)(KT:HK c){sa:Addr}{vs:List Value}{is:List Int}(hL:c.base.IsList sa vs.toArray)(hI:IntsAre vs is)(hl:is.length<=63)(s:Shared)(hs:s.heap=c.base)(R:Result->Shared->Prop)
  (h:∀h' tk,(∀b o,s.heap.get? b=some o->h'.get? b=some o)->R (.ok (.ret (.bool true))) {s with heap:=h',toks:=tk}):
  codeAny (model c.prog c.w) callerA (.call (.ref 859) ⟨[.ref sa],[]⟩) R s:=by
 have X:(Hp c.w.params).In c.base:=by have:=c.kin;rw[KT]at this;exact this
 refine tL (Ci X hL hI) fun n1 n2 n3 n4 n5=>?_
 have h1:cY sa is sa=some (.ro (.rlist (is.map fun i=> .int i 0))):=by unfold cY;rw[if_pos rfl]
 have k4:cY sa is 804=some (.ro (.dict Bb 4)):=by unfold cY;rw[if_neg n1.symm,if_pos rfl]
 have k5:cY sa is 805=some (.ro (.list [.bool true,.bool true])):=by unfold cY;rw[if_neg n2.symm,if_neg (by decide),if_pos rfl]
 have k6:cY sa is 806=some (.ro (.list [.bool true,.bool false])):=by unfold cY;rw[if_neg n3.symm,if_neg (by decide),if_neg (by decide),if_pos rfl]
 have k7:cY sa is 807=some (.ro (.list [.bool false])):=by unfold cY;rw[if_neg n4.symm,if_neg (by decide),if_neg (by decide),if_neg (by decide),if_pos rfl]
 have k9:cY sa is 659=some (.ro (.tup (AF.map aJ))):=by unfold cY;rw[if_neg n5.symm,if_neg (by decide),if_neg (by decide),if_neg (by decide),if_neg (by decide),if_pos rfl]
 have H0:bc c (cY sa is) s.heap:=by rw[hs];exact Cj c KT hL hI
 refine x8 (V:=cY sa is) (Q:=fun v _=>v= .bool true) KT h1 (.inl (af h1)) (by lia) ⟨805,806,807,4,k4,k5,k6,k7⟩ k9 (fun _=>rfl) [.ref sa] rfl callerA s R ⟨rfl,?_,?_⟩ H0 ?_
 ·rw[depth_caller];decide
 ·rw[units_caller,cLine_is];decide
 ·intro v h' tk V' H' S q
  have hv:v= .bool true:=by
   induction v<;>first| (cases q;rfl) |cases q
  subst hv
  exact h h' tk fun b o e=>S.keep b o e (nS sa is b) (fun f=>f)
theorem done:PySem.Challenge.rw_og0029_01.Holds:=by
 w_on
 refine holds_law Hd.Cz (fun sd=>?_)
 refine holds_open (q:=Hd.q) (loose:=Hd.loose) (Xt:=Hd.Xt) (XP:=XL Hd.q []) (Yf:=Hook.obs Hd.Hk) (Ya:=Hook.val Hd.Hk) (YP:=Hook.says Hd.Hk) (N:=12542) Hd.left (Hook.of Hd.Hk) (Hook.keeps Hd.Hk) (fun x e=>xl_of x (Bool.and_eq_true_iff.mp e).1) XL.keeps (by rfl) (by rfl) (by rfl) (fun x e=>recFacts_of (Bool.and_eq_true_iff.mp e).2) (by rfl) sd (by(repeat' with_reducible refine look_both ?_ ?_)<;>decide+kernel) ⟨rfl,rfl,rfl,rfl,rfl,by decide+kernel⟩ ?hw ?hc
 case hw=>w_witness2
 case hc=>
  intro w s₀ s₁ mg mb G Y fa o pm cd doc dV kV ho hd hcd hD hmg hg args vals as hpre hlay hrd hwl hlo
  have hmg':mg "law"=some (.ref fa):=hmg
  clear hmg
  have KX:(Hp w.params).In s₁.heap:=kIn_of Y
  refine Ground.open G ?_
  intro T B D TE TW
  clear hD hcd hd
  wrow_args hpre hlay hrd hwl hlo
  refine enter_call ?_
  refine codeAny_mono ?_ (fun _ _ g=>GoodW.toG g)
  have hfa:fa=859:=by
   have:=mg_of KX T.g (BJ _)
   rw[hmg']at this
   cases this;rfl
  subst hfa
  refine vU ⟨_,w,s₁.heap,Hp w.params,mg,mb,T.nolimit,T.g,T.b,T.builtins,KX⟩ rfl (by assumption) (by assumption) ?_ s₁ rfl _ ?_
  ·lia
  intro h' tk hk
  refine⟨.inl ⟨.bool true,.bool true,[],rfl,raisesW_false ?_,.bool true,?_,fun _=>⟨.nil,fun a ha=>nomatch ha⟩⟩,hk,rfl,hg⟩
  ·wrow_none_raised
  ·wrow_post
end Mine
theorem PySem.Challenge.cw_og0029_01_holds : PySem.Challenge.rw_og0029_01.Holds := by
  exact Mine.done
