import PyProof.Rows.All
import Wide.All
import OpenK.AllK
import KE.KSliceW
import KE.KTurnsGround
import KE.KTurnsDict
import KE.KWhile
import KE.KEqDat
import PyProof.TableCode
import KE.KItem
import KE.KLcTest
import KE.KDictAnyGet
import Wide.FinOn
import KE.KIsAll
import KE.KDictList
import KE.RegLcTurns
import KE.KTurnsAny
import KE.KDictOf
import PyProof.Rows.SetFrom
import Lean
import PySem.Challenge.RW_no0292_01
set_option Elab.async false
set_option autoImplicit false
set_option linter.all false
set_option maxRecDepth 100000
set_option tactic.hygienic false
set_option genInjectivity false
set_option genCtorIdx false
set_option genSizeOf false
set_option maxHeartbeats 0
namespace MineH
noncomputable section
open PySem PySem.W PyProof.Rows
abbrev pw:Program:=PySem.Challenge.pw_no0292_01
noncomputable def eg:List Stmt:=behindTheImports pw
noncomputable def st(i:Nat):Stmt:=eg.getD i (.Pass ⟨0,0,0,0⟩)
noncomputable def stC(i j:Nat):Stmt:=match st i with
 | .ClassDef _ _ _ b _ _ _ _ _ _ _=>b.getD j (.Pass ⟨0,0,0,0⟩)
 |s=>s
noncomputable def fn(s:Stmt)(name qual:Str)(g:Addr)(d kd doc pm cd:Value)(b:Addr):FuncData:=match s with
 | .FunctionDef _ a body _ _ _ sc _ _ _=>{name,qualname:=qual,params:=a,body:=.stmts body,scope:=sc,globals:=g,closure:=[],defaults:=d,kwdefaults:=kd,doc,pyModule:=pm,code:=cd,builtins:=b}
 |_=>default
noncomputable def en(P:Params)(k:Str)(t:Tok)(v:Value):DictEntry:=⟨PyData.keyHash P k,.str k t,v⟩
noncomputable def tu(a:Array Value):Obj:=⟨.type "tuple",none,.seq a 0,#[]⟩
noncomputable def nf(a:Array Value):Obj:=⟨.none,none,.fields a,#[]⟩
noncomputable def f0(s:Stmt)(a b:Str):Obj:=⟨.none,none,.func (fn s a b 0 .none .none .none .none .none 0),#[]⟩
noncomputable def f1(s:Stmt)(a b m:Str)(t:Tok)(c:Addr):Obj:=⟨.type "function",none,.func (fn s a b 3 .none .none .none (.str m t) (.ref c) 0),#[]⟩
noncomputable def co(a:Str)(i:Tok)(b:Str)(j k:Tok)(d e f:Int)(r:Addr)(w:Bool)(x y z:Value)(l:Int)(q:Tok):Obj:=⟨.type "code",none,.fields #[.str a i,.str b j,.str "/claim/cut.py" k,.int d 0,.int e 0,.int 0 0,.int 0 0,.int f 0,.ref r,.bool w,.int 181 0,.ref (r+1),.none,x,y,z,.int l 0,.int d 0,.str "/claim/cut.py" q],#[]⟩
noncomputable def RP(l:List Str):Nat->List Value:=List.rec (motive:=λ_=>Nat->List Value) (λ_=>[]) (λx _ ih t=>.str x t::ih (t+1)) l
noncomputable def ts(t:Nat)(l:List Str):Obj:=tu (RP l t).toArray
noncomputable def RQ(l:List (Nat×Nat)):List Value:=List.rec (motive:=λ_=>List Value) [] (λp _ ih=>.int (.ofNat p.1) 0::.int 0 0::.ref p.2::ih) l
noncomputable def li(l:List (Nat×Nat)):Obj:=nf (RQ l).toArray
noncomputable def ca(a:Nat)(n:Str)(i:Nat)(q:Str)(d e f l:Nat):Nat×Obj:=(a,co n i q (i+1) (i+2) (.ofNat d) (.ofNat e) (.ofNat f) (a - 5) true (.ref (a - 3)) (.ref (a - 2)) (.ref (a - 1)) (.ofNat l) (l+1))
noncomputable def cb(a:Nat)(n:Str)(i d e f l:Nat):Nat×Obj:=ca a n i n d e f l
noncomputable def fa(a:Nat)(s:Stmt)(n q:Str)(m:Str×Tok):Nat×Obj:=(a,f1 s n q m.1 m.2 (a - 1))
noncomputable def fb(a:Nat)(s:Stmt)(n:Str)(m:Str×Tok):Nat×Obj:=fa a s n n m
noncomputable def ga(a:Nat)(s:Stmt)(n:Str):Nat×Obj:=(a,f0 s n n)
noncomputable def RS:Str×Tok:=("f77.errors",187)
noncomputable def RC:Str×Tok:=("f77.kinds",250)
noncomputable def Qv:Str×Tok:=("f77.implicit",279)
noncomputable def EB:Str×Tok:=("f77.ints",345)
noncomputable def RT:Str×Tok:=("f77.memory",458)
noncomputable def md5:Str×Tok:=("f77.reals",468)
noncomputable def EH:Str×Tok:=("f77.complexes",674)
noncomputable def OP:Str×Tok:=("f77.operate",798)
noncomputable def EI:Str×Tok:=("f77.consts",862)
noncomputable def RU:Str×Tok:=("f77.trees",1019)
noncomputable def mJ:Str×Tok:=("f77.names",1058)
noncomputable def pQ:Str×Tok:=("f77.symbols",1232)
noncomputable def QB:Str×Tok:=("f77.units",1414)
noncomputable def nW:Str×Tok:=("law_no0292_01",1457)
noncomputable def nA:List (Nat×Nat):=[(2,20),(7,40),(9,52),(18,64),(20,71),(28,78),(43,113),(53,120),(58,127),(60,134),(62,141),(64,148),(67,155),(71,162),(77,169),(86,176),(90,183),(104,190),(116,197),(127,204),(133,212),(143,219),(150,226),(160,233),(168,240),(171,247),(173,254),(175,261),(182,268),(185,275),(188,282),(191,289),(196,296),(201,303),(203,310),(209,317),(219,324),(226,331),(228,338),(245,348),(247,355),(249,362),(251,369),(253,376),(256,383),(258,390),(266,397),(270,404),(282,411),(287,418),(306,425),(309,432),(313,439),(325,446),(335,453),(342,460)]
noncomputable def dA(P:Params):List DictEntry:=[en P "__doc__" 166 (.none),en P "__package__" 167 (.none),en P "__loader__" 168 (.builtin "__main__.__loader__#opaque"),en P "__spec__" 169 (.none),en P "__annotations__" 170 (.ref 6),en P "__builtins__" 171 (.ref 4),en P "__file__" 173 (.str "/claim/cut.py" 172),en P "__cached__" 174 (.none),en P "F77Error" 217 (.ref 31),en P "CheckFault" 233 (.ref 44),en P "RunFault" 249 (.ref 56),en P "INTEGER" 253 (.int 0 252),en P "REAL" 255 (.int 1 254),en P "DOUBLE" 257 (.int 2 256),en P "COMPLEX" 259 (.int 3 258),en P "LOGICAL" 261 (.int 4 260),en P "CHARACTER" 263 (.int 5 262),en P "is_numeric" 270 (.ref 65),en P "higher_kind" 278 (.ref 72),en P "LETTERS" 282 (.str "ABCDEFGHIJKLMNOPQRSTUVWXYZ" 281),en P "Implicit" 333 (.ref 103),en P "tell_letters" 344 (.ref 114),en P "fit_int" 355 (.ref 121),en P "int_add" 364 (.ref 128),en P "int_sub" 373 (.ref 135),en P "int_mul" 382 (.ref 142),en P "cut_quotient" 391 (.ref 149),en P "int_div" 400 (.ref 156),en P "inverse_power" 408 (.ref 163),en P "int_power" 419 (.ref 170),en P "order_of" 427 (.ref 177),en P "holds" 435 (.ref 184),en P "int_binary" 446 (.ref 191),en P "logic_binary" 457 (.ref 198),en P "pad" 467 (.ref 205),en P "NOUGHT" 472 (.ref 206),en P "GUARD" 474 (.int 8 473),en P "EXACT_POWER" 476 (.int 64 475),en P "count_digits" 484 (.ref 213),en P "strip_zeros" 492 (.ref 220),en P "round_digits" 505 (.ref 227),en P "round_real" 516 (.ref 234),en P "exact_add" 525 (.ref 241),en P "exact_mul" 533 (.ref 248),en P "real_neg" 540 (.ref 255),en P "quotient" 554 (.ref 262),en P "real_add" 566 (.ref 269),en P "real_sub" 578 (.ref 276),en P "real_mul" 590 (.ref 283),en P "real_div" 602 (.ref 290),en P "real_compare" 611 (.ref 297),en P "real_of_int" 620 (.ref 304),en P "real_to_int" 630 (.ref 311),en P "raised" 640 (.ref 318),en P "real_power" 652 (.ref 325),en P "digits_of" 660 (.ref 332),en P "real_binary" 673 (.ref 339),en P "ONE" 680 (.ref 342),en P "EXACT_COMPLEX_POWER" 682 (.int 16 681),en P "round_parts" 691 (.ref 349),en P "complex_add" 701 (.ref 356),en P "complex_neg" 708 (.ref 363),en P "complex_sub" 718 (.ref 370),en P "exact_product" 727 (.ref 377),en P "complex_mul" 737 (.ref 384),en P "complex_div" 751 (.ref 391),en P "guarded_product" 762 (.ref 398),en P "complex_raised" 773 (.ref 405),en P "complex_power" 784 (.ref 412),en P "complex_binary" 797 (.ref 419),en P "collate" 808 (.ref 426),en P "text_binary" 819 (.ref 433),en P "binary" 830 (.ref 440),en P "unary" 840 (.ref 447),en P "real_as" 851 (.ref 454),en P "convert" 861 (.ref 461)]
noncomputable def put:List (Nat×Obj)->BT->BT
 |[],t=>t
 |(a,o)::r,t=>put r (t.ins a o)
noncomputable def lb(P:Params):List (Nat×Obj):=[(0,boot_o_0 P),(1,boot_o_1 P),(2,boot_o_2 P),(3,boot_o_3 P),(4,boot_o_4 P),(5,boot_o_5 P),(6,boot_o_6 P),(7,boot_o_7 P),(8,boot_o_8 P),(9,boot_o_9 P),(10,boot_o_10 P)]
noncomputable def l0(P:Params):List (Nat×Obj):=[
(11,tu #[]),
(12,nf #[]),
(13,co "<module>" 182 "<module>" 183 184 1 0 0 11 false .none .none .none 185 186),
(14,⟨.type "frame",none,.plain,#[some (.ref 13),some (.ref 3),some (.ref 3),none,some (.str "__main__" 164),none,some (.ref 0)]⟩)]
noncomputable def l1(P:Params):List (Nat×Obj):=[
(2,⟨.none,none,.dict #[en P "type.__subclasses__.Exception.0" 214 (.int 31 0),en P "type.__subclasses__.Exception.n" 215 (.int 1 0)] 2,#[]⟩),
(3,⟨.type "dict",none,.dict (en P "__name__" 165 (.str "f77.consts" 862)::dA P).toArray 77,#[]⟩),
(12,li nA),
(15,tu #[.type "Exception"]),
(16,⟨.type "builtin_function_or_method",none,.fields #[.builtin "type.__prepare__",.type "type"],#[]⟩),
(17,⟨.type "dict",none,.dict #[en P "__module__" 196 (.str "f77.errors" 187),en P "__qualname__" 198 (.str "F77Error" 197),en P "__firstlineno__" 200 (.int 2 199),en P "__init__" 208 (.ref 28),en P "__static_attributes__" 210 (.ref 29)] 5,#[]⟩),
(18,tu #[]),
(19,nf #[.int 4 0,.int 4 0,.ref 27]),
(20,co "F77Error" 191 "F77Error" 192 193 2 0 0 18 false .none .none .none 194 195),
(21,⟨.type "frame",none,.plain,#[some (.ref 20),some (.ref 3),some (.ref 17),none,some (.str "f77.errors" 187),none,some (.ref 0)]⟩),
(22,tu #[]),
(23,nf #[]),
(24,ts 204 ["self","text"]),
(25,tu #[]),
(26,f0 (stC 1 0) "__init__" "F77Error.__init__"),
ca 27 "__init__" 201 "F77Error.__init__" 4 2 3 206,
fa 28 (stC 1 0) "__init__" "F77Error.__init__" RS,
(29,ts 209 ["text"]),
(30,⟨.type "dict",none,.dict #[en P "__module__" 196 (.str "f77.errors" 187),en P "__firstlineno__" 200 (.int 2 199),en P "__init__" 208 (.ref 28),en P "__static_attributes__" 210 (.ref 29),en P "__weakref__" 212 (.ref 32),en P "__doc__" 213 (.none)] 3,#[]⟩),
(31,⟨.type "type",none,.cls {name:="F77Error",bases:=[.type "Exception"],mro:=[.ref 31,.type "Exception",.type "BaseException",.type "object"],ns:=30,qualname:="F77Error",hasDict:=true,slotNames:=[],subclasses:=[.ref 44,.ref 56],abstract:=false,collection:=none,hasDel:=false},#[some (.ref 15),none,some (.str "F77Error" 189),some (.str "F77Error" 197),some (.builtin "Exception.__new__"),some (.bool true)]⟩),
(32,⟨.type "getset_descriptor",none,.fields #[.str "__weakref__" 211,.ref 31,.builtin "ExceptionGroup.__weakref__",.none],#[]⟩),
(33,⟨.type "super",none,.fields #[.ref 31,.ref 31,.ref 31],#[]⟩),
(34,⟨.type "builtin_function_or_method",none,.fields #[.builtin "object.__init_subclass__",.ref 31],#[]⟩),
(35,tu #[.ref 31]),
(36,⟨.type "builtin_function_or_method",none,.fields #[.builtin "type.__prepare__",.type "type"],#[]⟩),
(37,⟨.type "dict",none,.dict #[en P "__module__" 225 (.str "f77.errors" 187),en P "__qualname__" 227 (.str "CheckFault" 226),en P "__firstlineno__" 229 (.int 7 228),en P "__static_attributes__" 230 (.ref 42)] 4,#[]⟩),
(38,tu #[]),
(39,nf #[]),
(40,co "CheckFault" 220 "CheckFault" 221 222 7 0 0 38 false .none .none .none 223 224),
(41,⟨.type "frame",none,.plain,#[some (.ref 40),some (.ref 3),some (.ref 37),none,some (.str "f77.errors" 187),none,some (.ref 0)]⟩),
(42,tu #[]),
(43,⟨.type "dict",none,.dict #[en P "__module__" 225 (.str "f77.errors" 187),en P "__firstlineno__" 229 (.int 7 228),en P "__static_attributes__" 230 (.ref 42),en P "__doc__" 231 (.none)] 2,#[]⟩),
(44,⟨.type "type",none,.cls {name:="CheckFault",bases:=[.ref 31],mro:=[.ref 44,.ref 31,.type "Exception",.type "BaseException",.type "object"],ns:=43,qualname:="CheckFault",hasDict:=true,slotNames:=[],subclasses:=[],abstract:=false,collection:=none,hasDel:=false},#[some (.ref 35),none,some (.str "CheckFault" 218),some (.str "CheckFault" 226),some (.builtin "Exception.__new__"),some (.bool true)]⟩),
(45,⟨.type "super",none,.fields #[.ref 44,.ref 44,.ref 44],#[]⟩),
(46,⟨.type "builtin_function_or_method",none,.fields #[.builtin "object.__init_subclass__",.ref 44],#[]⟩),
(47,tu #[.ref 31]),
(48,⟨.type "builtin_function_or_method",none,.fields #[.builtin "type.__prepare__",.type "type"],#[]⟩),
(49,⟨.type "dict",none,.dict #[en P "__module__" 241 (.str "f77.errors" 187),en P "__qualname__" 243 (.str "RunFault" 242),en P "__firstlineno__" 245 (.int 9 244),en P "__static_attributes__" 246 (.ref 54)] 4,#[]⟩),
(50,tu #[]),
(51,nf #[]),
(52,co "RunFault" 236 "RunFault" 237 238 9 0 0 50 false .none .none .none 239 240),
(53,⟨.type "frame",none,.plain,#[some (.ref 52),some (.ref 3),some (.ref 49),none,some (.str "f77.errors" 187),none,some (.ref 0)]⟩),
(54,tu #[]),
(55,⟨.type "dict",none,.dict #[en P "__module__" 241 (.str "f77.errors" 187),en P "__firstlineno__" 245 (.int 9 244),en P "__static_attributes__" 246 (.ref 54),en P "__doc__" 247 (.none)] 2,#[]⟩),
(56,⟨.type "type",none,.cls {name:="RunFault",bases:=[.ref 31],mro:=[.ref 56,.ref 31,.type "Exception",.type "BaseException",.type "object"],ns:=55,qualname:="RunFault",hasDict:=true,slotNames:=[],subclasses:=[],abstract:=false,collection:=none,hasDel:=false},#[some (.ref 47),none,some (.str "RunFault" 234),some (.str "RunFault" 242),some (.builtin "Exception.__new__"),some (.bool true)]⟩),
(57,⟨.type "super",none,.fields #[.ref 56,.ref 56,.ref 56],#[]⟩),
(58,⟨.type "builtin_function_or_method",none,.fields #[.builtin "object.__init_subclass__",.ref 56],#[]⟩),
(59,tu #[]),
(60,nf #[]),
(61,ts 267 ["kind"]),
(62,tu #[]),
ga 63 (st 11) "is_numeric",
cb 64 "is_numeric" 264 18 1 3 268,
fb 65 (st 11) "is_numeric" RC,
(66,tu #[]),
(67,nf #[]),
(68,ts 274 ["a","b"]),
(69,tu #[]),
ga 70 (st 12) "higher_kind",
cb 71 "higher_kind" 271 20 2 3 276,
fb 72 (st 12) "higher_kind" RC,
(73,tu #[]),
(74,⟨.type "builtin_function_or_method",none,.fields #[.builtin "type.__prepare__",.type "type"],#[]⟩),
(75,⟨.type "dict",none,.dict #[en P "__module__" 290 (.str "f77.implicit" 279),en P "__qualname__" 292 (.str "Implicit" 291),en P "__firstlineno__" 294 (.int 28 293),en P "__init__" 302 (.ref 86),en P "add" 315 (.ref 93),en P "of" 323 (.ref 100),en P "__static_attributes__" 326 (.ref 101)] 7,#[]⟩),
(76,tu #[]),
(77,nf #[.int 30 0,.int 4 0,.ref 85,.int 36 0,.int 4 0,.ref 92,.int 41 0,.int 4 0,.ref 99]),
(78,co "Implicit" 285 "Implicit" 286 287 28 0 0 76 false .none .none .none 288 289),
(79,⟨.type "frame",none,.plain,#[some (.ref 78),some (.ref 3),some (.ref 75),none,some (.str "f77.implicit" 279),none,some (.ref 0)]⟩),
(80,tu #[]),
(81,nf #[]),
(82,ts 298 ["self","place"]),
(83,tu #[]),
(84,f0 (stC 15 0) "__init__" "Implicit.__init__"),
ca 85 "__init__" 295 "Implicit.__init__" 30 1 3 300,
fa 86 (stC 15 0) "__init__" "Implicit.__init__" Qv,
(87,tu #[]),
(88,nf #[]),
(89,ts 306 ["self","rules","kind","length","letters","first","last"]),
(90,tu #[]),
(91,f0 (stC 15 1) "add" "Implicit.add"),
ca 92 "add" 303 "Implicit.add" 36 2 3 313,
fa 93 (stC 15 1) "add" "Implicit.add" Qv,
(94,tu #[]),
(95,nf #[]),
(96,ts 319 ["self","name"]),
(97,tu #[]),
(98,f0 (stC 15 2) "of" "Implicit.of"),
ca 99 "of" 316 "Implicit.of" 41 2 3 321,
fa 100 (stC 15 2) "of" "Implicit.of" Qv,
(101,ts 324 ["rules","told"]),
(102,⟨.type "dict",none,.dict #[en P "__module__" 290 (.str "f77.implicit" 279),en P "__firstlineno__" 294 (.int 28 293),en P "__init__" 302 (.ref 86),en P "add" 315 (.ref 93),en P "of" 323 (.ref 100),en P "__static_attributes__" 326 (.ref 101),en P "__dict__" 328 (.ref 104),en P "__weakref__" 330 (.ref 105),en P "__doc__" 331 (.none)] 4,#[]⟩),
(103,⟨.type "type",none,.cls {name:="Implicit",bases:=[.type "object"],mro:=[.ref 103,.type "object"],ns:=102,qualname:="Implicit",hasDict:=true,slotNames:=[],subclasses:=[],abstract:=false,collection:=none,hasDel:=false},#[none,none,some (.str "Implicit" 283),some (.str "Implicit" 291),some (.builtin "object.__new__"),some (.bool true)]⟩),
(104,⟨.type "getset_descriptor",none,.fields #[.str "__dict__" 327,.ref 103,.builtin "function.__dict__",.builtin "function.__dict__#set"],#[]⟩),
(105,⟨.type "getset_descriptor",none,.fields #[.str "__weakref__" 329,.ref 103,.builtin "ExceptionGroup.__weakref__",.none],#[]⟩),
(106,⟨.type "super",none,.fields #[.ref 103,.ref 103,.ref 103],#[]⟩),
(107,⟨.type "builtin_function_or_method",none,.fields #[.builtin "object.__init_subclass__",.ref 103],#[]⟩),
(108,tu #[]),
(109,nf #[]),
(110,ts 337 ["implicit","rule","low","high","place"]),
(111,tu #[]),
ga 112 (st 16) "tell_letters",
cb 113 "tell_letters" 334 43 4 3 342,
fb 114 (st 16) "tell_letters" Qv,
(115,tu #[]),
(116,nf #[]),
(117,ts 350 ["n","width","most"]),
(118,tu #[]),
ga 119 (st 18) "fit_int",
cb 120 "fit_int" 347 53 2 3 353,
fb 121 (st 18) "fit_int" EB,
(122,tu #[]),
(123,nf #[]),
(124,ts 359 ["x","y","width"]),
(125,tu #[]),
ga 126 (st 19) "int_add",
cb 127 "int_add" 356 58 3 3 362,
fb 128 (st 19) "int_add" EB,
(129,tu #[]),
(130,nf #[]),
(131,ts 368 ["x","y","width"]),
(132,tu #[]),
ga 133 (st 20) "int_sub",
cb 134 "int_sub" 365 60 3 3 371,
fb 135 (st 20) "int_sub" EB,
(136,tu #[]),
(137,nf #[]),
(138,ts 377 ["x","y","width"]),
(139,tu #[]),
ga 140 (st 21) "int_mul",
cb 141 "int_mul" 374 62 3 3 380,
fb 142 (st 21) "int_mul" EB,
(143,tu #[]),
(144,nf #[]),
(145,ts 386 ["x","y","found"]),
(146,tu #[]),
ga 147 (st 22) "cut_quotient",
cb 148 "cut_quotient" 383 64 2 3 389,
fb 149 (st 22) "cut_quotient" EB,
(150,tu #[]),
(151,nf #[]),
(152,ts 395 ["x","y","width"]),
(153,tu #[]),
ga 154 (st 23) "int_div",
cb 155 "int_div" 392 67 3 3 398,
fb 156 (st 23) "int_div" EB,
(157,tu #[]),
(158,nf #[]),
(159,ts 404 ["x","n"]),
(160,tu #[]),
ga 161 (st 24) "inverse_power",
cb 162 "inverse_power" 401 71 2 3 406,
fb 163 (st 24) "inverse_power" EB,
(164,tu #[]),
(165,nf #[]),
(166,ts 412 ["x","n","width","found","turn"]),
(167,tu #[]),
ga 168 (st 25) "int_power",
cb 169 "int_power" 409 77 3 3 417,
fb 170 (st 25) "int_power" EB,
(171,tu #[]),
(172,nf #[]),
(173,ts 423 ["x","y"]),
(174,tu #[]),
ga 175 (st 26) "order_of",
cb 176 "order_of" 420 86 2 3 425,
fb 177 (st 26) "order_of" EB,
(178,tu #[]),
(179,nf #[]),
(180,ts 431 ["op","order"]),
(181,tu #[]),
ga 182 (st 27) "holds",
cb 183 "holds" 428 90 2 3 433,
fb 184 (st 27) "holds" EB,
(185,tu #[]),
(186,nf #[]),
(187,ts 439 ["op","kind","x","y","limits"]),
(188,tu #[]),
ga 189 (st 28) "int_binary",
cb 190 "int_binary" 436 104 5 3 444,
fb 191 (st 28) "int_binary" EB,
(192,tu #[]),
(193,nf #[]),
(194,ts 450 ["op","kind","x","y","limits"]),
(195,tu #[]),
ga 196 (st 29) "logic_binary",
cb 197 "logic_binary" 447 116 5 3 455,
fb 198 (st 29) "logic_binary" EB,
(199,tu #[]),
(200,nf #[]),
(201,ts 463 ["text","length"]),
(202,tu #[]),
ga 203 (st 31) "pad",
cb 204 "pad" 460 127 2 3 465,
fb 205 (st 31) "pad" RT,
(206,tu #[.int 0 470,.int 0 471]),
(207,tu #[]),
(208,nf #[]),
(209,ts 480 ["n","count"]),
(210,tu #[]),
ga 211 (st 36) "count_digits",
cb 212 "count_digits" 477 133 1 3 482,
fb 213 (st 36) "count_digits" md5,
(214,tu #[]),
(215,nf #[]),
(216,ts 488 ["m","e"]),
(217,tu #[]),
ga 218 (st 37) "strip_zeros",
cb 219 "strip_zeros" 485 143 2 3 490,
fb 220 (st 37) "strip_zeros" md5,
(221,tu #[]),
(222,nf #[]),
(223,ts 496 ["m","e","digits","drop","power","kept","rest"]),
(224,tu #[]),
ga 225 (st 38) "round_digits",
cb 226 "round_digits" 493 150 3 3 503,
fb 227 (st 38) "round_digits" md5,
(228,tu #[]),
(229,nf #[]),
(230,ts 509 ["m","e","digits","top","lead"]),
(231,tu #[]),
ga 232 (st 39) "round_real",
cb 233 "round_real" 506 160 4 3 514,
fb 234 (st 39) "round_real" md5,
(235,tu #[]),
(236,nf #[]),
(237,ts 520 ["x","y","low"]),
(238,tu #[]),
ga 239 (st 40) "exact_add",
cb 240 "exact_add" 517 168 2 3 523,
fb 241 (st 40) "exact_add" md5,
(242,tu #[]),
(243,nf #[]),
(244,ts 529 ["x","y"]),
(245,tu #[]),
ga 246 (st 41) "exact_mul",
cb 247 "exact_mul" 526 171 2 3 531,
fb 248 (st 41) "exact_mul" md5,
(249,tu #[]),
(250,nf #[]),
(251,ts 537 ["x"]),
(252,tu #[]),
ga 253 (st 42) "real_neg",
cb 254 "real_neg" 534 173 1 3 538,
fb 255 (st 42) "real_neg" md5,
(256,tu #[]),
(257,nf #[]),
(258,ts 544 ["over","under","e","digits","shift","kept","rest","m"]),
(259,tu #[]),
ga 260 (st 43) "quotient",
cb 261 "quotient" 541 175 4 3 552,
fb 262 (st 43) "quotient" md5,
(263,tu #[]),
(264,nf #[]),
(265,ts 558 ["x","y","digits","top","m","e"]),
(266,tu #[]),
ga 267 (st 44) "real_add",
cb 268 "real_add" 555 182 4 3 564,
fb 269 (st 44) "real_add" md5,
(270,tu #[]),
(271,nf #[]),
(272,ts 570 ["x","y","digits","top","m","e"]),
(273,tu #[]),
ga 274 (st 45) "real_sub",
cb 275 "real_sub" 567 185 4 3 576,
fb 276 (st 45) "real_sub" md5,
(277,tu #[]),
(278,nf #[]),
(279,ts 582 ["x","y","digits","top","m","e"]),
(280,tu #[]),
ga 281 (st 46) "real_mul",
cb 282 "real_mul" 579 188 4 3 588,
fb 283 (st 46) "real_mul" md5,
(284,tu #[]),
(285,nf #[]),
(286,ts 594 ["x","y","digits","top","m","e"]),
(287,tu #[]),
ga 288 (st 47) "real_div",
cb 289 "real_div" 591 191 4 3 600,
fb 290 (st 47) "real_div" md5,
(291,tu #[]),
(292,nf #[]),
(293,ts 606 ["x","y","m"]),
(294,tu #[]),
ga 295 (st 48) "real_compare",
cb 296 "real_compare" 603 196 2 3 609,
fb 297 (st 48) "real_compare" md5,
(298,tu #[]),
(299,nf #[]),
(300,ts 615 ["n","digits","top"]),
(301,tu #[]),
ga 302 (st 49) "real_of_int",
cb 303 "real_of_int" 612 201 3 3 618,
fb 304 (st 49) "real_of_int" md5,
(305,tu #[]),
(306,nf #[]),
(307,ts 624 ["x","m","e","found"]),
(308,tu #[]),
ga 309 (st 50) "real_to_int",
cb 310 "real_to_int" 621 203 1 3 628,
fb 311 (st 50) "real_to_int" md5,
(312,tu #[]),
(313,nf #[]),
(314,ts 634 ["x","n","digits","found"]),
(315,tu #[]),
ga 316 (st 51) "raised",
cb 317 "raised" 631 209 3 3 638,
fb 318 (st 51) "raised" md5,
(319,tu #[]),
(320,nf #[]),
(321,ts 644 ["x","n","digits","top","m","e"]),
(322,tu #[]),
ga 323 (st 52) "real_power",
cb 324 "real_power" 641 219 4 3 650,
fb 325 (st 52) "real_power" md5,
(326,tu #[]),
(327,nf #[]),
(328,ts 656 ["kind","limits"]),
(329,tu #[]),
ga 330 (st 53) "digits_of",
cb 331 "digits_of" 653 226 2 3 658,
fb 332 (st 53) "digits_of" md5,
(333,tu #[]),
(334,nf #[]),
(335,ts 664 ["op","kind","x","y","limits","digits","top"]),
(336,tu #[]),
ga 337 (st 54) "real_binary",
cb 338 "real_binary" 661 228 5 3 671,
fb 339 (st 54) "real_binary" md5,
(340,tu #[.int 1 676,.int 0 677]),
(341,tu #[.int 0 678,.int 0 679]),
(342,tu #[.ref 340,.ref 341]),
(343,tu #[]),
(344,nf #[]),
(345,ts 686 ["x","digits","top"]),
(346,tu #[]),
ga 347 (st 58) "round_parts",
cb 348 "round_parts" 683 245 3 3 689,
fb 349 (st 58) "round_parts" EH,
(350,tu #[]),
(351,nf #[]),
(352,ts 695 ["x","y","digits","top"]),
(353,tu #[]),
ga 354 (st 59) "complex_add",
cb 355 "complex_add" 692 247 4 3 699,
fb 356 (st 59) "complex_add" EH,
(357,tu #[]),
(358,nf #[]),
(359,ts 705 ["x"]),
(360,tu #[]),
ga 361 (st 60) "complex_neg",
cb 362 "complex_neg" 702 249 1 3 706,
fb 363 (st 60) "complex_neg" EH,
(364,tu #[]),
(365,nf #[]),
(366,ts 712 ["x","y","digits","top"]),
(367,tu #[]),
ga 368 (st 61) "complex_sub",
cb 369 "complex_sub" 709 251 4 3 716,
fb 370 (st 61) "complex_sub" EH,
(371,tu #[]),
(372,nf #[]),
(373,ts 722 ["x","y","across"]),
(374,tu #[]),
ga 375 (st 62) "exact_product",
cb 376 "exact_product" 719 253 2 3 725,
fb 377 (st 62) "exact_product" EH,
(378,tu #[]),
(379,nf #[]),
(380,ts 731 ["x","y","digits","top"]),
(381,tu #[]),
ga 382 (st 63) "complex_mul",
cb 383 "complex_mul" 728 256 4 3 735,
fb 384 (st 63) "complex_mul" EH,
(385,tu #[]),
(386,nf #[]),
(387,ts 741 ["x","y","digits","top","size","whole","across","upward"]),
(388,tu #[]),
ga 389 (st 64) "complex_div",
cb 390 "complex_div" 738 258 4 3 749,
fb 391 (st 64) "complex_div" EH,
(392,tu #[]),
(393,nf #[]),
(394,ts 755 ["x","y","digits","found","more"]),
(395,tu #[]),
ga 396 (st 65) "guarded_product",
cb 397 "guarded_product" 752 266 3 3 760,
fb 398 (st 65) "guarded_product" EH,
(399,tu #[]),
(400,nf #[]),
(401,ts 766 ["x","n","digits","found","turn"]),
(402,tu #[]),
ga 403 (st 66) "complex_raised",
cb 404 "complex_raised" 763 270 3 3 771,
fb 405 (st 66) "complex_raised" EH,
(406,tu #[]),
(407,nf #[]),
(408,ts 777 ["x","n","digits","top","found"]),
(409,tu #[]),
ga 410 (st 67) "complex_power",
cb 411 "complex_power" 774 282 4 3 782,
fb 412 (st 67) "complex_power" EH,
(413,tu #[]),
(414,nf #[]),
(415,ts 788 ["op","kind","x","y","limits","digits","top"]),
(416,tu #[]),
ga 417 (st 68) "complex_binary",
cb 418 "complex_binary" 785 287 5 3 795,
fb 419 (st 68) "complex_binary" EH,
(420,tu #[]),
(421,nf #[]),
(422,ts 803 ["x","y","wide"]),
(423,tu #[]),
ga 424 (st 70) "collate",
cb 425 "collate" 800 306 2 3 806,
fb 426 (st 70) "collate" OP,
(427,tu #[]),
(428,nf #[]),
(429,ts 812 ["op","kind","x","y","limits"]),
(430,tu #[]),
ga 431 (st 71) "text_binary",
cb 432 "text_binary" 809 309 5 3 817,
fb 433 (st 71) "text_binary" OP,
(434,tu #[]),
(435,nf #[]),
(436,ts 823 ["op","kind","x","y","limits"]),
(437,tu #[]),
ga 438 (st 72) "binary",
cb 439 "binary" 820 313 5 3 828,
fb 440 (st 72) "binary" OP,
(441,tu #[]),
(442,nf #[]),
(443,ts 834 ["op","kind","x","limits"]),
(444,tu #[]),
ga 445 (st 73) "unary",
cb 446 "unary" 831 325 4 3 838,
fb 447 (st 73) "unary" OP,
(448,tu #[]),
(449,nf #[]),
(450,ts 844 ["value","of","to","limits","digits"]),
(451,tu #[]),
ga 452 (st 74) "real_as",
cb 453 "real_as" 841 335 4 3 849,
fb 454 (st 74) "real_as" OP,
(455,tu #[]),
(456,nf #[]),
(457,ts 855 ["value","of","to","limits"]),
(458,tu #[]),
ga 459 (st 75) "convert",
cb 460 "convert" 852 342 4 3 859,
fb 461 (st 75) "convert" OP]
noncomputable def l2(P:Params):List (Nat×Obj):=[
(3,⟨.type "dict",none,.dict (en P "__name__" 165 (.str "f77.consts" 862)::(dA P++[en P "ARITHMETIC" 876 (.ref 462),en P "RELATIONS" 895 (.ref 463),en P "CONNECTIVES" 908 (.ref 464)])).toArray 80,#[]⟩),
(462,⟨.type "dict",none,.dict #[en P "+" 864 (.str "add" 865),en P "-" 866 (.str "sub" 867),en P "*" 868 (.str "mul" 869),en P "/" 870 (.str "div" 871)] 4,#[]⟩),
(463,⟨.type "dict",none,.dict #[en P ".EQ." 877 (.str "eq" 878),en P ".NE." 879 (.str "ne" 880),en P ".LT." 881 (.str "lt" 882),en P ".LE." 883 (.str "le" 884),en P ".GT." 885 (.str "gt" 886),en P ".GE." 887 (.str "ge" 888)] 6,#[]⟩),
(464,⟨.type "dict",none,.dict #[en P ".AND." 896 (.str "and" 897),en P ".OR." 898 (.str "or" 899),en P ".EQV." 900 (.str "eqv" 901),en P ".NEQV." 902 (.str "neqv" 903)] 4,#[]⟩)]
noncomputable def l3(P:Params):List (Nat×Obj):=[
(3,⟨.type "dict",none,.dict (en P "__name__" 165 (.str "law_no0292_01" 1457)::(dA P++[en P "ARITHMETIC" 876 (.ref 462),en P "RELATIONS" 895 (.ref 463),en P "CONNECTIVES" 908 (.ref 464),en P "constant_kind" 916 (.ref 471),en P "part_value" 924 (.ref 478),en P "constant_value" 933 (.ref 485),en P "eval_const" 943 (.ref 492),en P "const_of" 952 (.ref 499),en P "const_sign" 963 (.ref 506),en P "const_pair" 974 (.ref 513),en P "as_kind" 983 (.ref 520),en P "const_relation" 994 (.ref 527),en P "int_const" 1005 (.ref 534),en P "named_const" 1018 (.ref 541),en P "Symbol" 1057 (.ref 558),en P "NameTable" 1102 (.ref 579),en P "need" 1113 (.ref 590),en P "whole_const" 1121 (.ref 597),en P "length_of" 1131 (.ref 604),en P "give_kind" 1142 (.ref 611),en P "give_dims" 1153 (.ref 618),en P "add_parameter" 1164 (.ref 625),en P "add_common" 1178 (.ref 632),en P "equiv_item" 1184 (.ref 637),en P "add_external" 1194 (.ref 644),en P "add_intrinsic" 1204 (.ref 651),en P "add_saves" 1213 (.ref 658),en P "add_spec" 1219 (.ref 663),en P "add_stfunc" 1231 (.ref 670),en P "note_names" 1243 (.ref 677),en P "note_tuple" 1253 (.ref 684),en P "settle_applied" 1262 (.ref 691),en P "settle_called" 1271 (.ref 698),en P "mark_dummies" 1280 (.ref 705),en P "check_symbol" 1288 (.ref 712),en P "note_specs" 1300 (.ref 719),en P "add_first" 1312 (.ref 726),en P "mark_heads" 1322 (.ref 733),en P "settle_uses" 1332 (.ref 740),en P "gather" 1351 (.ref 747),en P "build_symbols" 1360 (.ref 754),en P "Limits" 1413 (.ref 772),en P "RawUnit" 1456 (.ref 793),en P "_law_rest" 1464 (.ref 804),en P "_law_names" 1471 (.ref 805),en P "_law_once" 1478 (.ref 806),en P "_law_barred" 1573 (.ref 854),en P "_law_draw" 1582 (.ref 861),en P "_law_is_intrinsic" 1589 (.ref 868),en P "_law_dims" 1596 (.ref 875),en P "_law_spec" 1606 (.ref 882),en P "_law_stmt" 1615 (.ref 889),en P "_law_stmt_facts" 1623 (.ref 896),en P "_law_spec_facts" 1635 (.ref 903),en P "_law_clash" 1641 (.ref 908),en P "_law_use" 1651 (.ref 915),en P "_law_row" 1666 (.ref 922),en P "_law_raw" 1676 (.ref 929),en P "law" 1682 (.ref 934)])).toArray 136,#[]⟩),
(12,li (nA++[(358,470),(361,477),(365,484),(374,491),(379,498),(391,505),(402,512),(419,519),(421,526),(426,533),(431,540),(442,547),(455,568),(471,589),(479,596),(481,603),(492,610),(501,617),(514,624),(524,631),(534,636),(544,643),(551,650),(557,657),(562,662),(589,669),(600,676),(609,683),(624,690),(634,697),(639,704),(646,711),(657,718),(663,725),(674,732),(689,739),(703,746),(717,753),(720,760),(732,782),(746,803),(751,860),(755,867),(757,874),(759,881),(772,888),(782,895),(795,902),(808,907),(820,914),(827,921),(837,928),(853,933)])),
(465,tu #[]),
(466,nf #[]),
(467,ts 912 ["tree","kinds"]),
(468,tu #[]),
ga 469 (st 80) "constant_kind",
cb 470 "constant_kind" 909 358 1 3 914,
fb 471 (st 80) "constant_kind" EI,
(472,tu #[]),
(473,nf #[]),
(474,ts 920 ["tree","limits"]),
(475,tu #[]),
ga 476 (st 81) "part_value",
cb 477 "part_value" 917 361 2 3 922,
fb 478 (st 81) "part_value" EI,
(479,tu #[]),
(480,nf #[]),
(481,ts 928 ["tree","limits","kind"]),
(482,tu #[]),
ga 483 (st 82) "constant_value",
cb 484 "constant_value" 925 365 2 3 931,
fb 485 (st 82) "constant_value" EI,
(486,tu #[]),
(487,nf #[]),
(488,ts 937 ["tree","values","limits","fault"]),
(489,tu #[]),
ga 490 (st 83) "eval_const",
cb 491 "eval_const" 934 374 3 3 941,
fb 492 (st 83) "eval_const" EI,
(493,tu #[]),
(494,nf #[]),
(495,ts 947 ["tree","values","limits"]),
(496,tu #[]),
ga 497 (st 84) "const_of",
cb 498 "const_of" 944 379 3 3 950,
fb 499 (st 84) "const_of" EI,
(500,tu #[]),
(501,nf #[]),
(502,ts 956 ["op","told","limits","kind","value"]),
(503,tu #[]),
ga 504 (st 85) "const_sign",
cb 505 "const_sign" 953 391 3 3 961,
fb 506 (st 85) "const_sign" EI,
(507,tu #[]),
(508,nf #[]),
(509,ts 967 ["op","left","right","limits","kind"]),
(510,tu #[]),
ga 511 (st 86) "const_pair",
cb 512 "const_pair" 964 402 4 3 972,
fb 513 (st 86) "const_pair" EI,
(514,tu #[]),
(515,nf #[]),
(516,ts 978 ["told","kind","limits"]),
(517,tu #[]),
ga 518 (st 87) "as_kind",
cb 519 "as_kind" 975 419 3 3 981,
fb 520 (st 87) "as_kind" EI,
(521,tu #[]),
(522,nf #[]),
(523,ts 987 ["name","left","right","limits","kind"]),
(524,tu #[]),
ga 525 (st 88) "const_relation",
cb 526 "const_relation" 984 421 4 3 992,
fb 527 (st 88) "const_relation" EI,
(528,tu #[]),
(529,nf #[]),
(530,ts 998 ["tree","values","limits","kind","value"]),
(531,tu #[]),
ga 532 (st 89) "int_const",
cb 533 "int_const" 995 426 3 3 1003,
fb 534 (st 89) "int_const" EI,
(535,tu #[]),
(536,nf #[]),
(537,ts 1009 ["tree","kind","length","values","limits","told","fault"]),
(538,tu #[]),
ga 539 (st 90) "named_const",
cb 540 "named_const" 1006 431 5 3 1016,
fb 541 (st 90) "named_const" EI,
(542,tu #[]),
(543,⟨.type "builtin_function_or_method",none,.fields #[.builtin "type.__prepare__",.type "type"],#[]⟩),
(544,⟨.type "dict",none,.dict #[en P "__module__" 1028 (.str "f77.trees" 1019),en P "__qualname__" 1030 (.str "Symbol" 1029),en P "__firstlineno__" 1032 (.int 442 1031),en P "__init__" 1040 (.ref 555),en P "__static_attributes__" 1050 (.ref 556)] 5,#[]⟩),
(545,tu #[]),
(546,nf #[.int 444 0,.int 4 0,.ref 554]),
(547,co "Symbol" 1023 "Symbol" 1024 1025 442 0 0 545 false .none .none .none 1026 1027),
(548,⟨.type "frame",none,.plain,#[some (.ref 547),some (.ref 3),some (.ref 544),none,some (.str "f77.trees" 1019),none,some (.ref 0)]⟩),
(549,tu #[]),
(550,nf #[]),
(551,ts 1036 ["self","name"]),
(552,tu #[]),
(553,f0 (stC 92 0) "__init__" "Symbol.__init__"),
ca 554 "__init__" 1033 "Symbol.__init__" 444 2 3 1038,
fa 555 (stC 92 0) "__init__" "Symbol.__init__" RU,
(556,ts 1041 ["common","dims","is_dummy","is_saved","kind","length","name","use","value"]),
(557,⟨.type "dict",none,.dict #[en P "__module__" 1028 (.str "f77.trees" 1019),en P "__firstlineno__" 1032 (.int 442 1031),en P "__init__" 1040 (.ref 555),en P "__static_attributes__" 1050 (.ref 556),en P "__dict__" 1052 (.ref 559),en P "__weakref__" 1054 (.ref 560),en P "__doc__" 1055 (.none)] 4,#[]⟩),
(558,⟨.type "type",none,.cls {name:="Symbol",bases:=[.type "object"],mro:=[.ref 558,.type "object"],ns:=557,qualname:="Symbol",hasDict:=true,slotNames:=[],subclasses:=[],abstract:=false,collection:=none,hasDel:=false},#[none,none,some (.str "Symbol" 1021),some (.str "Symbol" 1029),some (.builtin "object.__new__"),some (.bool true)]⟩),
(559,⟨.type "getset_descriptor",none,.fields #[.str "__dict__" 1051,.ref 558,.builtin "function.__dict__",.builtin "function.__dict__#set"],#[]⟩),
(560,⟨.type "getset_descriptor",none,.fields #[.str "__weakref__" 1053,.ref 558,.builtin "ExceptionGroup.__weakref__",.none],#[]⟩),
(561,⟨.type "super",none,.fields #[.ref 558,.ref 558,.ref 558],#[]⟩),
(562,⟨.type "builtin_function_or_method",none,.fields #[.builtin "object.__init_subclass__",.ref 558],#[]⟩),
(563,tu #[]),
(564,⟨.type "builtin_function_or_method",none,.fields #[.builtin "type.__prepare__",.type "type"],#[]⟩),
(565,⟨.type "dict",none,.dict #[en P "__module__" 1067 (.str "f77.names" 1058),en P "__qualname__" 1069 (.str "NameTable" 1068),en P "__firstlineno__" 1071 (.int 455 1070),en P "__init__" 1081 (.ref 576),en P "__static_attributes__" 1095 (.ref 577)] 5,#[]⟩),
(566,tu #[]),
(567,nf #[.int 457 0,.int 4 0,.ref 575]),
(568,co "NameTable" 1062 "NameTable" 1063 1064 455 0 0 566 false .none .none .none 1065 1066),
(569,⟨.type "frame",none,.plain,#[some (.ref 568),some (.ref 3),some (.ref 565),none,some (.str "f77.names" 1058),none,some (.ref 0)]⟩),
(570,tu #[]),
(571,nf #[]),
(572,ts 1075 ["self","implicit","is_intrinsic","limits"]),
(573,tu #[]),
(574,f0 (stC 94 0) "__init__" "NameTable.__init__"),
ca 575 "__init__" 1072 "NameTable.__init__" 457 4 3 1079,
fa 576 (stC 94 0) "__init__" "NameTable.__init__" mJ,
(577,ts 1082 ["applied","called","commons","constants","datas","equivs","external","implicit","is_intrinsic","limits","saves","symbols","typed"]),
(578,⟨.type "dict",none,.dict #[en P "__module__" 1067 (.str "f77.names" 1058),en P "__firstlineno__" 1071 (.int 455 1070),en P "__init__" 1081 (.ref 576),en P "__static_attributes__" 1095 (.ref 577),en P "__dict__" 1097 (.ref 580),en P "__weakref__" 1099 (.ref 581),en P "__doc__" 1100 (.none)] 4,#[]⟩),
(579,⟨.type "type",none,.cls {name:="NameTable",bases:=[.type "object"],mro:=[.ref 579,.type "object"],ns:=578,qualname:="NameTable",hasDict:=true,slotNames:=[],subclasses:=[],abstract:=false,collection:=none,hasDel:=false},#[none,none,some (.str "NameTable" 1060),some (.str "NameTable" 1068),some (.builtin "object.__new__"),some (.bool true)]⟩),
(580,⟨.type "getset_descriptor",none,.fields #[.str "__dict__" 1096,.ref 579,.builtin "function.__dict__",.builtin "function.__dict__#set"],#[]⟩),
(581,⟨.type "getset_descriptor",none,.fields #[.str "__weakref__" 1098,.ref 579,.builtin "ExceptionGroup.__weakref__",.none],#[]⟩),
(582,⟨.type "super",none,.fields #[.ref 579,.ref 579,.ref 579],#[]⟩),
(583,⟨.type "builtin_function_or_method",none,.fields #[.builtin "object.__init_subclass__",.ref 579],#[]⟩),
(584,tu #[]),
(585,nf #[]),
(586,ts 1106 ["table","name","symbol","kind","told"]),
(587,tu #[]),
ga 588 (st 95) "need",
cb 589 "need" 1103 471 2 3 1111,
fb 590 (st 95) "need" mJ,
(591,tu #[]),
(592,nf #[]),
(593,ts 1117 ["table","tree"]),
(594,tu #[]),
ga 595 (st 96) "whole_const",
cb 596 "whole_const" 1114 479 2 3 1119,
fb 597 (st 96) "whole_const" mJ,
(598,tu #[]),
(599,nf #[]),
(600,ts 1125 ["table","kind","length","told"]),
(601,tu #[]),
ga 602 (st 97) "length_of",
cb 603 "length_of" 1122 481 3 3 1129,
fb 604 (st 97) "length_of" mJ,
(605,tu #[]),
(606,nf #[]),
(607,ts 1135 ["table","name","kind","length","symbol"]),
(608,tu #[]),
ga 609 (st 98) "give_kind",
cb 610 "give_kind" 1132 492 4 3 1140,
fb 611 (st 98) "give_kind" mJ,
(612,tu #[]),
(613,nf #[]),
(614,ts 1146 ["table","name","dims","symbol","place"]),
(615,tu #[]),
ga 616 (st 99) "give_dims",
cb 617 "give_dims" 1143 501 3 3 1151,
fb 618 (st 99) "give_dims" mJ,
(619,tu #[]),
(620,nf #[]),
(621,ts 1157 ["table","name","tree","symbol","value"]),
(622,tu #[]),
ga 623 (st 100) "add_parameter",
cb 624 "add_parameter" 1154 514 3 3 1162,
fb 625 (st 100) "add_parameter" mJ,
(626,tu #[]),
(627,nf #[]),
(628,ts 1168 ["table","block","items","names","name","dims","length","symbol"]),
(629,tu #[]),
ga 630 (st 101) "add_common",
cb 631 "add_common" 1165 524 3 3 1176,
fb 632 (st 101) "add_common" mJ,
(633,tu #[]),
(634,nf #[]),
ga 635 (st 102) "equiv_item",
(636,co "equiv_item" 1179 "equiv_item" 1180 1181 534 2 3 633 true .none .none (.ref 635) 1182 1183),
fb 637 (st 102) "equiv_item" mJ,
(638,tu #[]),
(639,nf #[]),
(640,ts 1188 ["table","names","name","symbol"]),
(641,tu #[]),
ga 642 (st 103) "add_external",
cb 643 "add_external" 1185 544 2 3 1192,
fb 644 (st 103) "add_external" mJ,
(645,tu #[]),
(646,nf #[]),
(647,ts 1198 ["table","names","name","symbol"]),
(648,tu #[]),
ga 649 (st 104) "add_intrinsic",
cb 650 "add_intrinsic" 1195 551 2 3 1202,
fb 651 (st 104) "add_intrinsic" mJ,
(652,tu #[]),
(653,nf #[]),
(654,ts 1208 ["table","names","name"]),
(655,tu #[]),
ga 656 (st 105) "add_saves",
cb 657 "add_saves" 1205 557 2 3 1211,
fb 658 (st 105) "add_saves" mJ,
(659,tu #[]),
(660,nf #[]),
ga 661 (st 106) "add_spec",
(662,co "add_spec" 1214 "add_spec" 1215 1216 562 2 3 659 true .none .none (.ref 661) 1217 1218),
fb 663 (st 106) "add_spec" mJ,
(664,tu #[]),
(665,nf #[]),
(666,ts 1223 ["table","name","dummies","body","symbol","place"]),
(667,tu #[]),
ga 668 (st 107) "add_stfunc",
cb 669 "add_stfunc" 1220 589 4 3 1229,
fb 670 (st 107) "add_stfunc" mJ,
(671,tu #[]),
(672,nf #[]),
(673,ts 1237 ["table","tree","word","part"]),
(674,tu #[]),
ga 675 (st 109) "note_names",
cb 676 "note_names" 1234 600 2 3 1241,
fb 677 (st 109) "note_names" pQ,
(678,tu #[]),
(679,nf #[]),
(680,ts 1247 ["table","tree","tag","part"]),
(681,tu #[]),
ga 682 (st 110) "note_tuple",
cb 683 "note_tuple" 1244 609 2 3 1251,
fb 684 (st 110) "note_tuple" pQ,
(685,tu #[]),
(686,nf #[]),
(687,ts 1257 ["table","name","symbol"]),
(688,tu #[]),
ga 689 (st 111) "settle_applied",
cb 690 "settle_applied" 1254 624 2 3 1260,
fb 691 (st 111) "settle_applied" pQ,
(692,tu #[]),
(693,nf #[]),
(694,ts 1266 ["table","name","symbol"]),
(695,tu #[]),
ga 696 (st 112) "settle_called",
cb 697 "settle_called" 1263 634 2 3 1269,
fb 698 (st 112) "settle_called" pQ,
(699,tu #[]),
(700,nf #[]),
(701,ts 1275 ["table","dummies","place"]),
(702,tu #[]),
ga 703 (st 113) "mark_dummies",
cb 704 "mark_dummies" 1272 639 2 3 1278,
fb 705 (st 113) "mark_dummies" pQ,
(706,tu #[]),
(707,nf #[]),
(708,ts 1284 ["table","symbol"]),
(709,tu #[]),
ga 710 (st 114) "check_symbol",
cb 711 "check_symbol" 1281 646 2 3 1286,
fb 712 (st 114) "check_symbol" pQ,
(713,tu #[]),
(714,nf #[]),
(715,ts 1292 ["table","name","low","high","targets","values"]),
(716,tu #[]),
ga 717 (st 115) "note_specs",
cb 718 "note_specs" 1289 657 1 3 1298,
fb 719 (st 115) "note_specs" pQ,
(720,tu #[]),
(721,nf #[]),
(722,ts 1304 ["table","specs","count","spec","name","tree"]),
(723,tu #[]),
ga 724 (st 116) "add_first",
cb 725 "add_first" 1301 663 2 3 1310,
fb 726 (st 116) "add_first" pQ,
(727,tu #[]),
(728,nf #[]),
(729,ts 1316 ["table","raw","results","name"]),
(730,tu #[]),
ga 731 (st 117) "mark_heads",
cb 732 "mark_heads" 1313 674 2 3 1320,
fb 733 (st 117) "mark_heads" pQ,
(734,tu #[]),
(735,nf #[]),
(736,ts 1326 ["table","results","name","symbol"]),
(737,tu #[]),
ga 738 (st 118) "settle_uses",
cb 739 "settle_uses" 1323 689 2 3 1330,
fb 740 (st 118) "settle_uses" pQ,
(741,tu #[]),
(742,nf #[]),
(743,ts 1336 ["raw","is_intrinsic","limits","table","count","results","line","spec","name","dummies","body","label","stmt"]),
(744,tu #[]),
ga 745 (st 119) "gather",
cb 746 "gather" 1333 703 3 3 1349,
fb 747 (st 119) "gather" pQ,
(748,tu #[]),
(749,nf #[]),
(750,ts 1355 ["raw","is_intrinsic","limits"]),
(751,tu #[]),
ga 752 (st 120) "build_symbols",
cb 753 "build_symbols" 1352 717 3 3 1358,
fb 754 (st 120) "build_symbols" pQ,
(755,tu #[]),
(756,⟨.type "builtin_function_or_method",none,.fields #[.builtin "type.__prepare__",.type "type"],#[]⟩),
(757,⟨.type "dict",none,.dict #[en P "__module__" 1370 (.str "f77.limits" 1361),en P "__qualname__" 1372 (.str "Limits" 1371),en P "__firstlineno__" 1374 (.int 720 1373),en P "__init__" 1397 (.ref 769),en P "__static_attributes__" 1406 (.ref 770)] 5,#[]⟩),
(758,tu #[]),
(759,nf #[.int 722 0,.int 4 0,.ref 768]),
(760,co "Limits" 1365 "Limits" 1366 1367 720 0 0 758 false .none .none .none 1368 1369),
(761,⟨.type "frame",none,.plain,#[some (.ref 760),some (.ref 3),some (.ref 757),none,some (.str "f77.limits" 1361),none,some (.ref 0)]⟩),
(762,tu #[.int 32 1375,.int 7 1376,.int 15 1377,.int 38 1378,.int 1000000 1379,.int 19 1380,.int 72 1381,.int 40 1382]),
(763,tu #[]),
(764,nf #[]),
(765,ts 1386 ["self","width","real_digits","double_digits","top_exponent","steps","continuations","columns","depth"]),
(766,tu #[]),
(767,f0 (stC 122 0) "__init__" "Limits.__init__"),
ca 768 "__init__" 1383 "Limits.__init__" 722 9 3 1395,
(769,⟨.type "function",none,.func (fn (stC 122 0) "__init__" "Limits.__init__" 3 (.ref 762) (.none) (.none) (.str "f77.limits" 1361) (.ref 768) 0),#[]⟩),
(770,ts 1398 ["columns","continuations","depth","double_digits","real_digits","steps","top_exponent","width"]),
(771,⟨.type "dict",none,.dict #[en P "__module__" 1370 (.str "f77.limits" 1361),en P "__firstlineno__" 1374 (.int 720 1373),en P "__init__" 1397 (.ref 769),en P "__static_attributes__" 1406 (.ref 770),en P "__dict__" 1408 (.ref 773),en P "__weakref__" 1410 (.ref 774),en P "__doc__" 1411 (.none)] 4,#[]⟩),
(772,⟨.type "type",none,.cls {name:="Limits",bases:=[.type "object"],mro:=[.ref 772,.type "object"],ns:=771,qualname:="Limits",hasDict:=true,slotNames:=[],subclasses:=[],abstract:=false,collection:=none,hasDel:=false},#[none,none,some (.str "Limits" 1363),some (.str "Limits" 1371),some (.builtin "object.__new__"),some (.bool true)]⟩),
(773,⟨.type "getset_descriptor",none,.fields #[.str "__dict__" 1407,.ref 772,.builtin "function.__dict__",.builtin "function.__dict__#set"],#[]⟩),
(774,⟨.type "getset_descriptor",none,.fields #[.str "__weakref__" 1409,.ref 772,.builtin "ExceptionGroup.__weakref__",.none],#[]⟩),
(775,⟨.type "super",none,.fields #[.ref 772,.ref 772,.ref 772],#[]⟩),
(776,⟨.type "builtin_function_or_method",none,.fields #[.builtin "object.__init_subclass__",.ref 772],#[]⟩),
(777,tu #[]),
(778,⟨.type "builtin_function_or_method",none,.fields #[.builtin "type.__prepare__",.type "type"],#[]⟩),
(779,⟨.type "dict",none,.dict #[en P "__module__" 1423 (.str "f77.units" 1414),en P "__qualname__" 1425 (.str "RawUnit" 1424),en P "__firstlineno__" 1427 (.int 732 1426),en P "__init__" 1438 (.ref 790),en P "__static_attributes__" 1449 (.ref 791)] 5,#[]⟩),
(780,tu #[]),
(781,nf #[.int 734 0,.int 4 0,.ref 789]),
(782,co "RawUnit" 1418 "RawUnit" 1419 1420 732 0 0 780 false .none .none .none 1421 1422),
(783,⟨.type "frame",none,.plain,#[some (.ref 782),some (.ref 3),some (.ref 779),none,some (.str "f77.units" 1414),none,some (.ref 0)]⟩),
(784,tu #[]),
(785,nf #[]),
(786,ts 1431 ["self","kind","name","dummies","result"]),
(787,tu #[]),
(788,f0 (stC 124 0) "__init__" "RawUnit.__init__"),
ca 789 "__init__" 1428 "RawUnit.__init__" 734 5 3 1436,
fa 790 (stC 124 0) "__init__" "RawUnit.__init__" QB,
(791,ts 1439 ["body","dummies","entries","formats","kind","labels","name","result","specs","stfuncs"]),
(792,⟨.type "dict",none,.dict #[en P "__module__" 1423 (.str "f77.units" 1414),en P "__firstlineno__" 1427 (.int 732 1426),en P "__init__" 1438 (.ref 790),en P "__static_attributes__" 1449 (.ref 791),en P "__dict__" 1451 (.ref 794),en P "__weakref__" 1453 (.ref 795),en P "__doc__" 1454 (.none)] 4,#[]⟩),
(793,⟨.type "type",none,.cls {name:="RawUnit",bases:=[.type "object"],mro:=[.ref 793,.type "object"],ns:=792,qualname:="RawUnit",hasDict:=true,slotNames:=[],subclasses:=[],abstract:=false,collection:=none,hasDel:=false},#[none,none,some (.str "RawUnit" 1416),some (.str "RawUnit" 1424),some (.builtin "object.__new__"),some (.bool true)]⟩),
(794,⟨.type "getset_descriptor",none,.fields #[.str "__dict__" 1450,.ref 793,.builtin "function.__dict__",.builtin "function.__dict__#set"],#[]⟩),
(795,⟨.type "getset_descriptor",none,.fields #[.str "__weakref__" 1452,.ref 793,.builtin "ExceptionGroup.__weakref__",.none],#[]⟩),
(796,⟨.type "super",none,.fields #[.ref 793,.ref 793,.ref 793],#[]⟩),
(797,⟨.type "builtin_function_or_method",none,.fields #[.builtin "object.__init_subclass__",.ref 793],#[]⟩),
(798,tu #[]),
(799,nf #[]),
(800,tu #[]),
(801,tu #[]),
ga 802 (st 126) "_law_rest",
cb 803 "_law_rest" 1459 746 0 3 1462,
fb 804 (st 126) "_law_rest" nW,
(805,ts 1465 ["A","B","C","I","SIN","J"]),
(806,ts 1472 ["type","dims","common","param","external","intrinsic"]),
(807,ts 1479 ["dims","param"]),
(808,ts 1481 ["dims","external"]),
(809,ts 1483 ["dims","intrinsic"]),
(810,ts 1485 ["dims","stfunc"]),
(811,ts 1487 ["dims","called"]),
(812,ts 1489 ["dims","result"]),
(813,ts 1491 ["common","param"]),
(814,ts 1493 ["common","external"]),
(815,ts 1495 ["common","intrinsic"]),
(816,ts 1497 ["common","stfunc"]),
(817,ts 1499 ["common","asked"]),
(818,ts 1501 ["common","called"]),
(819,ts 1503 ["common","dummy"]),
(820,ts 1505 ["common","save"]),
(821,ts 1507 ["common","result"]),
(822,ts 1509 ["param","external"]),
(823,ts 1511 ["param","intrinsic"]),
(824,ts 1513 ["param","stfunc"]),
(825,ts 1515 ["param","asked"]),
(826,ts 1517 ["param","called"]),
(827,ts 1519 ["param","dummy"]),
(828,ts 1521 ["param","save"]),
(829,ts 1523 ["param","result"]),
(830,ts 1525 ["external","intrinsic"]),
(831,ts 1527 ["external","stfunc"]),
(832,ts 1529 ["external","save"]),
(833,ts 1531 ["external","result"]),
(834,ts 1533 ["intrinsic","stfunc"]),
(835,ts 1535 ["intrinsic","save"]),
(836,ts 1537 ["intrinsic","dummy"]),
(837,ts 1539 ["intrinsic","called"]),
(838,ts 1541 ["intrinsic","result"]),
(839,ts 1543 ["stfunc","dummy"]),
(840,ts 1545 ["stfunc","save"]),
(841,ts 1547 ["stfunc","called"]),
(842,ts 1549 ["stfunc","result"]),
(843,ts 1551 ["asked","called"]),
(844,ts 1553 ["asked","save"]),
(845,ts 1555 ["asked","result"]),
(846,ts 1557 ["called","type"]),
(847,ts 1559 ["called","save"]),
(848,ts 1561 ["called","result"]),
(849,ts 1563 ["save","dummy"]),
(850,ts 1565 ["save","result"]),
(851,ts 1567 ["dummy","result"]),
(852,ts 1569 ["stfunc","stfunc"]),
(853,ts 1571 ["applied","result"]),
(854,tu #[.ref 807,.ref 808,.ref 809,.ref 810,.ref 811,.ref 812,.ref 813,.ref 814,.ref 815,.ref 816,.ref 817,.ref 818,.ref 819,.ref 820,.ref 821,.ref 822,.ref 823,.ref 824,.ref 825,.ref 826,.ref 827,.ref 828,.ref 829,.ref 830,.ref 831,.ref 832,.ref 833,.ref 834,.ref 835,.ref 836,.ref 837,.ref 838,.ref 839,.ref 840,.ref 841,.ref 842,.ref 843,.ref 844,.ref 845,.ref 846,.ref 847,.ref 848,.ref 849,.ref 850,.ref 851,.ref 852,.ref 853]),
(855,tu #[]),
(856,nf #[]),
(857,ts 1577 ["pen","many","at"]),
(858,tu #[]),
ga 859 (st 130) "_law_draw",
cb 860 "_law_draw" 1574 751 2 3 1580,
fb 861 (st 130) "_law_draw" nW,
(862,tu #[]),
(863,nf #[]),
(864,ts 1586 ["name"]),
(865,tu #[]),
ga 866 (st 131) "_law_is_intrinsic",
cb 867 "_law_is_intrinsic" 1583 755 1 3 1587,
fb 868 (st 131) "_law_is_intrinsic" nW,
(869,tu #[]),
(870,nf #[]),
(871,ts 1593 ["pen"]),
(872,tu #[]),
ga 873 (st 132) "_law_dims",
cb 874 "_law_dims" 1590 757 1 3 1594,
fb 875 (st 132) "_law_dims" nW,
(876,tu #[]),
(877,nf #[]),
(878,ts 1600 ["pen","way","name","kind"]),
(879,tu #[]),
ga 880 (st 133) "_law_spec",
cb 881 "_law_spec" 1597 759 1 3 1604,
fb 882 (st 133) "_law_spec" nW,
(883,tu #[]),
(884,nf #[]),
(885,ts 1610 ["pen","way","name"]),
(886,tu #[]),
ga 887 (st 134) "_law_stmt",
cb 888 "_law_stmt" 1607 772 1 3 1613,
fb 889 (st 134) "_law_stmt" nW,
(890,tu #[]),
(891,nf #[]),
(892,ts 1619 ["stmt","facts"]),
(893,tu #[]),
ga 894 (st 135) "_law_stmt_facts",
cb 895 "_law_stmt_facts" 1616 782 2 3 1621,
fb 896 (st 135) "_law_stmt_facts" nW,
(897,tu #[]),
(898,nf #[]),
(899,ts 1627 ["spec","facts","told","word","item","name"]),
(900,tu #[]),
ga 901 (st 136) "_law_spec_facts",
cb 902 "_law_spec_facts" 1624 795 3 3 1633,
fb 903 (st 136) "_law_spec_facts" nW,
(904,tu #[]),
(905,nf #[]),
ga 906 (st 137) "_law_clash",
(907,co "_law_clash" 1636 "_law_clash" 1637 1638 808 4 3 904 true .none .none (.ref 906) 1639 1640),
fb 908 (st 137) "_law_clash" nW,
(909,tu #[]),
(910,nf #[]),
(911,ts 1645 ["name","had","fact","use"]),
(912,tu #[]),
ga 913 (st 138) "_law_use",
cb 914 "_law_use" 1642 820 2 3 1649,
fb 915 (st 138) "_law_use" nW,
(916,tu #[]),
(917,nf #[]),
(918,ts 1655 ["name","had","told","letter","kind","size","length","use","value"]),
(919,tu #[]),
ga 920 (st 139) "_law_row",
cb 921 "_law_row" 1652 827 4 3 1664,
fb 922 (st 139) "_law_row" nW,
(923,tu #[]),
(924,nf #[]),
(925,ts 1670 ["pen","kind","raw","turn"]),
(926,tu #[]),
ga 927 (st 140) "_law_raw",
cb 928 "_law_raw" 1667 837 1 3 1674,
fb 929 (st 140) "_law_raw" nW,
(930,tu #[]),
(931,nf #[]),
ga 932 (st 141) "law",
(933,co "law" 1677 "law" 1678 1679 853 1 3 930 true .none .none (.ref 932) 1680 1681),
fb 934 (st 141) "law" nW]
noncomputable def T0(P:Params):BT:=put (l0 P) (put (lb P) .nil)
noncomputable def T1(P:Params):BT:=put (l1 P) (T0 P)
noncomputable def T2(P:Params):BT:=put (l2 P) (T1 P)
noncomputable def T3(P:Params):BT:=put (l3 P) (T2 P)
noncomputable def jk:Env:={scope:=pw.main.scope,locals:=mainNs,globals:=mainNs,cells:=[],code:=.ref 13,frame:=some 14}
noncomputable def cE:Code:=.body eg jk
noncomputable def p0:Pos:=⟨0,0,0,0⟩
noncomputable def iV:Option Value:=some (.ref 6)
noncomputable def S(T:Params->BT)(n k:Nat)(w:World)(os:OsState):SharedT:=⟨T w.params,n,(boot_heap w.params).life,#[],boot_drawn,k,os⟩
theorem zP{w:World}{N:Nat}{s s':SharedT}{l:List Stmt}{c:Code}{p q:Pos}{B:List Frame}
  (h:PySem.W.Fast.tw10110043849684766642 PySem.W.Fast.tw14364793385576792824 pw w 11 iV 1 N s ⟨(PySem.W.Fast.tw12563942051412417395 l jk).wrap doneF deadEnd id id,c,p,B⟩=some (.next,s',c,q)):
  segRun treeTable pw w 11 iV 1 N s.abs (piecesOf l jk c p B)=some (.next,s'.abs,c,q):=by
 rw[<- PySem.W.Fast.te10110043849684766642,<- PySem.W.Fast.te14364793385576792824,<- PySem.W.Fast.te12563942051412417395]at h;exact segRun_of h
theorem lY{w:World}{n N a k:Nat}{s s' r:Shared}{pos p':Pos}(h:segRun treeTable pw w 11 iV 1 n s (piecesOf ((eg.drop a).take k) jk cE pos [topFrame p0])=some (.next,s',cE,p'))
  (k2:topRun treeTable pw w 11 iV N s' (restOf (eg.drop (a+k)) jk cE p' [topFrame p0])=some r):
  topRun treeTable pw w 11 iV (n+N) s (restOf (eg.drop a) jk cE pos [topFrame p0])=some r:=by
 have:=piece_app (rest:=eg.drop (a+k)) h k2;rwa [show(eg.drop a).take k++eg.drop (a+k)=eg.drop a from by rw[<- List.drop_drop];exact List.take_append_drop ..]at this
theorem pre(w:World)(os:OsState):topGo treeTable pw w 11 iV 12 ⟨boot_heap w.params,#[],boot_drawn,boot_toks,os⟩ (topStub pw)=some ((S T0 15 187 w os).abs,⟨denote treeTable cE,cE,p0,[topFrame p0]⟩):=by kernel_rfl
theorem VZ(w:World)(os:OsState):segRun treeTable pw w 11 iV 1 1 (S T0 15 187 w os).abs (blockOf eg jk cE p0 [topFrame p0])=some (.next,(S T0 15 187 w os).abs,cE,p0):=by kernel_rfl
theorem fin(w:World)(os:OsState)(p:Pos):topRun treeTable pw w 11 iV 2 (S T3 935 1683 w os).abs (restOf (eg.drop 142) jk cE p [topFrame p0])=some (S T3 935 1683 w os).abs:=by kernel_rfl
theorem r1(w:World)(os:OsState):PySem.W.Fast.tw10110043849684766642 PySem.W.Fast.tw14364793385576792824 pw w 11 iV 1 2811 (S T0 15 187 w os) ⟨(PySem.W.Fast.tw12563942051412417395 ((eg.drop 0).take 77) jk).wrap doneF deadEnd id id,cE,p0,[topFrame p0]⟩=some (.next,S T1 462 864 w os,cE,⟨354,0,354,8⟩):=by kernel_rfl
theorem r2(w:World)(os:OsState):PySem.W.Fast.tw10110043849684766642 PySem.W.Fast.tw14364793385576792824 pw w 11 iV 1 241 (S T1 462 864 w os) ⟨(PySem.W.Fast.tw12563942051412417395 ((eg.drop 77).take 3) jk).wrap doneF deadEnd id id,cE,⟨354,0,354,8⟩,[topFrame p0]⟩=some (.next,S T2 465 909 w os,cE,⟨357,0,357,11⟩):=by
 refine byRow2 "special-get-raises" (P:=λw=>PySem.W.Fast.tw10110043849684766642 PySem.W.Fast.tw14364793385576792824 pw w 11 iV 1 241 (S T1 462 864 w os) ⟨(PySem.W.Fast.tw12563942051412417395 ((eg.drop 77).take 3) jk).wrap doneF deadEnd id id,cE,⟨354,0,354,8⟩,[topFrame p0]⟩=some (.next,S T2 465 909 w os,cE,⟨357,0,357,11⟩)) (λw=>?_) (λw=>?_) w
 ·kernel_rfl
 ·kernel_rfl
theorem r3(w:World)(os:OsState):PySem.W.Fast.tw10110043849684766642 PySem.W.Fast.tw14364793385576792824 pw w 11 iV 1 2781 (S T2 465 909 w os) ⟨(PySem.W.Fast.tw12563942051412417395 ((eg.drop 80).take 62) jk).wrap doneF deadEnd id id,cE,⟨357,0,357,11⟩,[topFrame p0]⟩=some (.next,S T3 935 1683 w os,cE,⟨853,0,899,36⟩):=by kernel_rfl
noncomputable def Hf(P:Params):Heap:=absHeap (T3 P) 935 (boot_heap P).life
noncomputable def qv:Program:={pw with main:={pw.main with body:=[st 141]}}
noncomputable def lw:List Str:=pw.boundNames.filter λn=>n != ("law":Str)&&n != ("__name__":Str)
noncomputable def sf(w:World)(os:OsState):Shared:=⟨Hf w.params,#[],boot_drawn,1683,os⟩
abbrev Tw(l:List Stmt)(p:Pos):Thread:=⟨(PySem.W.Fast.tw12563942051412417395 l jk).wrap doneF deadEnd id id,cE,p,[topFrame p0]⟩
theorem OW:eg.drop 0=eg:=List.drop_zero ..
theorem QC(w:World)(os:OsState):(S T3 935 1683 w os).abs=sf w os:=by kernel_rfl
theorem s1(w:World)(os:OsState):segRun treeTable pw w 11 iV 1 2811 (S T0 15 187 w os).abs (piecesOf ((eg.drop 0).take 77) jk cE p0 [topFrame p0])=some (.next,(S T1 462 864 w os).abs,cE,⟨354,0,354,8⟩):=zP (r1 w os)
theorem s2(w:World)(os:OsState):segRun treeTable pw w 11 iV 1 241 (S T1 462 864 w os).abs (piecesOf ((eg.drop 77).take 3) jk cE ⟨354,0,354,8⟩ [topFrame p0])=some (.next,(S T2 465 909 w os).abs,cE,⟨357,0,357,11⟩):=zP (r2 w os)
theorem s3(w:World)(os:OsState):segRun treeTable pw w 11 iV 1 2781 (S T2 465 909 w os).abs (piecesOf ((eg.drop 80).take 62) jk cE ⟨357,0,357,11⟩ [topFrame p0])=some (.next,(S T3 935 1683 w os).abs,cE,⟨853,0,899,36⟩):=zP (r3 w os)
theorem c3(w:World)(os:OsState):topRun treeTable pw w 11 iV (2781+2) (S T2 465 909 w os).abs (restOf (eg.drop 80) jk cE ⟨357,0,357,11⟩ [topFrame p0])=some (S T3 935 1683 w os).abs:=
 lY (a:=80) (k:=62) (s3 w os) (fin w os _)
theorem c2(w:World)(os:OsState):topRun treeTable pw w 11 iV (241+(2781+2)) (S T1 462 864 w os).abs (restOf (eg.drop 77) jk cE ⟨354,0,354,8⟩ [topFrame p0])=some (S T3 935 1683 w os).abs:=
 lY (a:=77) (k:=3) (s2 w os) (c3 w os)
theorem c1(w:World)(os:OsState):topRun treeTable pw w 11 iV (2811+(241+(2781+2))) (S T0 15 187 w os).abs (restOf eg jk cE p0 [topFrame p0])=some (S T3 935 1683 w os).abs:=by have h:=lY (a:=0) (k:=77) (s1 w os) (c2 w os);rw[OW]at h;exact h
theorem c0(w:World)(os:OsState):topRun treeTable pw w 11 iV (1+(2811+(241+(2781+2)))) (S T0 15 187 w os).abs ⟨denote treeTable cE,cE,p0,[topFrame p0]⟩=some (S T3 935 1683 w os).abs:=
 piece_block (b:=eg) (env:=jk) (VZ w os) (c1 w os)
theorem We(w:World)(os:OsState):topRun treeTable pw w 11 iV (12+(1+(2811+(241+(2781+2))))) ⟨boot_heap w.params,#[],boot_drawn,boot_toks,os⟩ (topStub pw)=some (sf w os):=
 QC w os▸go_top (pre w os) (c0 w os)
noncomputable def Vs:List Str:=importedModules pw.main.body
noncomputable def tt(_:Shared):Bool:=true
theorem MY:∀w:World,(fencedOpening treeTable pw w 12000).map (λs=>(s.heap,s.gens,s.drawn,s.toks))=some (boot_heap w.params,Array.mk [],boot_drawn,boot_toks):=
 boot_open (by kernel_rfl) (by kernel_rfl) (λs=>by kernel_rfl)
theorem MZ(w:World):((boot_heap w.params).isNs mainGlobals&&(Array.mk []:Array GenState).size==0,(boot_heap w.params).objs.size,(boot_heap w.params).nsMap mainGlobals "__annotations__")=(true,11,iV):=by kernel_rfl
theorem I5(w:World):staticsOk Vs (boot_heap w.params) (Hf w.params)=true:=by kernel_rfl
theorem I6(w:World):namesBound pw (Hf w.params)=true:=by kernel_rfl
theorem I7(w:World)(os:OsState):gensDone (sf w os)=true:=by kernel_rfl
theorem I8(w:World):laidKept (boot_heap w.params) (Hf w.params)=true:=by kernel_rfl
theorem e0(w:World)(os:OsState):seen ((recsOf qv).map (·.name)) (ownsOf qv) [] {sf w os with gens:=#[]}=expectedOf qv:=by kernel_rfl
theorem e1(w:World)(os:OsState):(sf w os).heap.bltView=bltViewBooted:=by kernel_rfl
theorem e2(w:World)(os:OsState):(sf w os).heap.keysOk (looseW qv lw) ((recsOf qv).map (·.name)) ((litsOf qv).map (·.1)) ((clssOf qv (looseW qv lw)).map (·.name))=true:=by kernel_rfl
theorem e3(w:World)(os:OsState):((sf w os).heap.accountedOkI Vs&&(sf w os).heap.isNs mainGlobals&&(sf w os).heap.isNs builtinsNs&&tablesOk qv (sf w os).heap&&tt (sf w os)&&(if true then(sf w os).gens.size==0 else !leftWithCleanup (sf w os).gens))=true:=by kernel_rfl
theorem e4(w:World)(os:OsState):tabsOk qv (sf w os)=true:=by kernel_rfl
theorem e5(w:World)(os:OsState):pinSeenD qv (drecsOf qv) (sf w os)=pinGoodD (drecsOf qv):=by kernel_rfl
theorem e6(w:World)(os:OsState):plainSeenE qv (looseW qv lw) (sf w os)=plainGoodE qv (looseW qv lw):=by kernel_rfl
theorem e7(w:World)(os:OsState):plainSeenD qv lw (sf w os)=plainGoodD qv lw:=by kernel_rfl
theorem e8(w:World)(os:OsState):wideSeen qv (sf w os)=wideGood qv:=by kernel_rfl
theorem e9(w:World)(os:OsState):clsSeenW qv lw (sf w os)=clsGoodW qv lw:=by kernel_rfl
theorem eO(w:World)(os:OsState):openSeen qv lw Vs tt true (sf w os)=openGood qv lw:=by unfold openSeen openGood;rw[e0,e1,e4,e5,e6,e7,e8,e9];have h2:=e2 w os;have h3:=e3 w os;obtain⟨h3,f⟩:=Bool.and_eq_true_iff.mp h3;obtain⟨h3,e⟩:=Bool.and_eq_true_iff.mp h3;obtain⟨h3,d⟩:=Bool.and_eq_true_iff.mp h3;obtain⟨h3,c⟩:=Bool.and_eq_true_iff.mp h3;obtain⟨a,b⟩:=Bool.and_eq_true_iff.mp h3;rw[h2,a,b,c,d,e,f];rfl
noncomputable def Yf(s:Shared):Heap×Nat:=(s.heap,s.toks)
noncomputable def Ya(w:World):Heap×Nat:=(Hf w.params,1683)
theorem left:LeftO pw qv lw tt Yf Ya 12000:=
 LeftO.of_pieces (H₀:=boot_heap) (H₁:=Hf) (gs₀:=Array.mk []) (gs₁:=#[]) (d₀:=boot_drawn) (d₁:=boot_drawn) (k₀:=boot_toks) (k₁:=1683) (m₀:=11) (ann:=iV) (M:=12+(1+(2811+(241+(2781+2)))))
  MY MZ We (by kernel_rfl) (λw=>funext λos=>by
   refine Prod.ext ?_ (Prod.ext ?_ rfl)
   ·show(staticsOk Vs (boot_heap w.params) (Hf w.params)&&namesBound pw (Hf w.params)&&gensDone (sf w os)&&laidKept (boot_heap w.params) (Hf w.params))=true;rw[I5,I6,I7,I8];rfl
   ·exact eO w os)
noncomputable def dL:DefRec:=match st 141 with
 | .FunctionDef n a b _ _ _ sc _ _ p=>⟨n,a,b,sc,p⟩
 |_=>⟨"",⟨[],[],none,[],[],none,[]⟩,[],default,⟨0,0,0,0⟩⟩
abbrev rL:OpenLaw:=PySem.Challenge.rw_no0292_01
abbrev rW:OpenRow:=PySem.Challenge.rw_no0292_01.row
theorem m0:(sreFenced pw.main&&((moduleNames pw.main.body).isEmpty||lookedIntoSs (moduleNames pw.main.body) pw.main.body))=true:=by kernel_rfl
theorem m1:namesResolve pw=true:=by rw[PySem.W.Fast.te8377067652309620493];kernel_rfl
theorem m2:pw.boundNames.all (λn=>!worldNames.contains n)=true:=by kernel_rfl
theorem EJ(c:Look):∀a b:List Stmt,noRoadLSs c (a++b)=(noRoadLSs c a&&noRoadLSs c b)
 |[],_=>rfl
 |s::a,b=>(congrArg (noRoadLS c s&&·) (EJ c a b)).trans (Bool.and_assoc ..).symm
noncomputable def RD:Look:={strict:=!(importedModules pw.main.body).all cThrough.contains,foot:=none,bare:=(["vars","dir","locals"]:List Str).filter (readsOut pw pw.main.body)}
noncomputable def Qw:Look:={strict:=false,foot:=none,bare:=[]}
theorem OX:RD=Qw:=by kernel_rfl
theorem RW:noRoadLSs Qw (pw.main.body.take 60)=true:=by rw[PySem.W.Fast.te8326940854005059898];kernel_rfl
theorem RX:noRoadLSs Qw ((pw.main.body.drop 60).take 45)=true:=by rw[PySem.W.Fast.te8326940854005059898];kernel_rfl
theorem RY:noRoadLSs Qw ((pw.main.body.drop 60).drop 45)=true:=by rw[PySem.W.Fast.te8326940854005059898];kernel_rfl
theorem EK{c:Look}{l:List Stmt}(k:Nat)(h1:noRoadLSs c (l.take k)=true)(h2:noRoadLSs c (l.drop k)=true):noRoadLSs c l=true:=
 (congrArg (noRoadLSs c) (List.take_append_drop k l).symm).trans ((EJ _ _ _).trans (look_both h1 h2))
theorem m3:noRoadLSs RD pw.main.body=true:=OX▸EK 60 RW (EK 45 RX RY)
theorem m4:(namesMeet pw pw.main.body λ_ n=>attrL n)=true:=by rw[PySem.W.Fast.te17119622794617984870];kernel_rfl
theorem m5:looksOpen pw=true:=by unfold looksOpen;exact look_both (look_both (look_both (look_both m0 m1) m2) m3) m4
theorem n0:(rW.loose.isEmpty)=true:=by kernel_rfl
theorem n1:(rW.makers.isEmpty)=true:=by kernel_rfl
theorem n2:(rW.records.isEmpty||rW.raises.all λct=>ct.1 != .builtin "AttributeError"&&ct.1 != .builtin "TypeError")=true:=by kernel_rfl
theorem n3:(rW.raises.all λct=>match ct.1 with| .builtin n=>!rW.prog.boundNames.contains (Str.ofString n)&&!ofTheWorld.contains n| .own _=>true)=true:=by kernel_rfl
theorem n4:(decide (rW.records.map (·.1)).Nodup)=true:=by kernel_rfl
theorem n5:(rW.records.all λx=>!x.1.opensWith "__"&&!builtinNamed x.1&&rW.prog.boundNames.contains x.1&&x.2.all λf=>!f.1.opensWith "__")=true:=by kernel_rfl
theorem n6:(rW.toRowW.solid)=true:=by kernel_rfl
theorem n7:(rW.pre.litsOk)=true:=by kernel_rfl
theorem n8:(rW.post.litsOk)=true:=by kernel_rfl
theorem n9:(rW.raises.all (·.2.litsOk))=true:=by kernel_rfl
theorem RZ:(rW.mutates.all (λi=>match rW.args[i]? with
  |some sh=>!sh.arms.any WShape.isObj
  |none=>false))=true:=by kernel_rfl
theorem R0:(rW.within.all (λi=>decide (i < rW.args.length)))=true:=by kernel_rfl
theorem R1:(rW.same.all (λi=>decide (i < rW.args.length)))=true:=by kernel_rfl
theorem R2:(rW.prog.boundNames.contains rW.name)=true:=by kernel_rfl
theorem R3:(!startupNames.contains rW.name)=true:=by kernel_rfl
theorem k0:rW.wellSaid=true:=by unfold OpenRow.wellSaid OpenRow.partSaid;exact(look_both (look_both (look_both (look_both (look_both (look_both (look_both (look_both (look_both (look_both (look_both (look_both (look_both (look_both (look_both m5 n0) n1) n2) n3) n4) n5) n6) n7) n8) n9) RZ) R0) R1) R2) R3)
theorem R4:(decide (rL.foot<=(behindTheImports rL.prog).length))=true:=by kernel_rfl
theorem R5:(rL.footing.all footLine)=true:=by kernel_rfl
theorem k2:(noClassBlock rL.prog rL.footing)=true:=by rw[PySem.W.Fast.te8179353310426384613];kernel_rfl
theorem R6:(rL.most.all (λn=>decide (63<=n)))=true:=by kernel_rfl
theorem R7:(rL.bound.all (λn=>decide (2 ^ 63<=n)))=true:=by kernel_rfl
theorem k4:(noRoadLSs {strict:=true,foot:=some rL.bound',writes:=rL.writes,may:=rL.may} rL.footing)=true:=by rw[PySem.W.Fast.te8326940854005059898];kernel_rfl
theorem k5:(defStands rL.about rL.above)=true:=by kernel_rfl
theorem k6:(rL.namesIt)=true:=by rw[PySem.W.Fast.te16286561074155671207];kernel_rfl
theorem k7:((["type","isinstance","issubclass","getattr","hasattr"]:List Str).all (λn=>rL.about != [n]))=true:=by kernel_rfl
theorem k8:(rL.bound'.all (λn=>!builtinNamed n||rL.about==[n]||!rL.reads n))=true:=by rw[PySem.W.Fast.te6984425678791042302];kernel_rfl
theorem R8:(!rL.writes||(rL.prog.main.body.flatMap importedNames).all λn=>!rL.reads n)=true:=by kernel_rfl
theorem R9:((rL.prog.main.body.flatMap importedNames).all (λn=>!rL.reads n||(drawsOf n rL.prog.main.body).all λmn=>mn.2 != ("attrgetter":Str)&&mn.2 != ("methodcaller":Str)))=true:=by kernel_rfl
theorem Sa:(namesMeet rL.prog rL.footing (λsc n=>(!(["type","isinstance","issubclass","getattr","hasattr"]:List Str).contains n||sc.names.lookup n==some .globalImplicit)&&
  (rL.may != some n||sc.kind==.module||sc.names.lookup n==some .globalImplicit)))=true:=by rw[PySem.W.Fast.te17119622794617984870];kernel_rfl
theorem QD:(rL.own.contains rL.name)=true:=by kernel_rfl
theorem QE:(rL.own.eraseDups.length==rL.own.length)=true:=by kernel_rfl
theorem QF:(rL.own.all (λn=>!builtinNamed n))=true:=by kernel_rfl
theorem Sd:(namesMeet rL.prog rL.above (λ_ n=>!rL.own.contains n))=true:=by rw[PySem.W.Fast.te17119622794617984870];kernel_rfl
theorem Se:(namesMeet rL.prog rL.footing λsc n=>sc.kind==.module||sc.names.lookup n != some .globalExplicit)=true:=by rw[PySem.W.Fast.te17119622794617984870];kernel_rfl
theorem Sf:OpenLaw.wellSaid PySem.Challenge.rw_no0292_01=true:=by unfold OpenLaw.wellSaid;exact(look_both (look_both (look_both (look_both (look_both (look_both (look_both (look_both (look_both (look_both (look_both (look_both (look_both (look_both (look_both (look_both (look_both (look_both k0 R4) R5) k2) R6) R7) k4) k5) k6) k7) k8) R8) R9) Sa) QD) QE) QF) Sd) Se)
theorem tw1:rW.prog.tablesWhole=true:=by unfold Program.tablesWhole TablesWhole.wProgram;rw[PySem.W.Fast.te6116379765354995101];kernel_rfl
theorem head(walk:WalkX qv lw (λ_ _=>True) Yf Ya rW.toRowW dL [] λf vs=>PySem.call f vs):PySem.Challenge.rw_no0292_01.Holds:=
 holds_law Sf λsaid=>holds_openX (q:=qv) (loose:=lw) (Xt:=tt) (XP:=λ_ _=>True) (Yf:=Yf) (Ya:=Ya) (N:=12000) (d:=dL) (kwd:=[])
  left (λ_ _=>trivial) (λ_ _ _ _ _=>trivial) (by kernel_rfl) (by kernel_rfl) (by kernel_rfl) (λ_ _=>recFacts_nil rfl) (by kernel_rfl) said (by kernel_rfl)
  ⟨rfl,rfl,rfl,rfl,rfl,tw1⟩ ⟨[.list []],by decide+kernel,by decide+kernel⟩ walk
end
end MineH
set_option maxHeartbeats 1000000
namespace Mine
abbrev S:=List Nat
noncomputable abbrev aF:S:=[97,112,112,101,110,100]
noncomputable abbrev aQ:S:=[112,97,114,97,109]
noncomputable abbrev aJ:S:=[99,111,109,109,111,110]
noncomputable abbrev bO:S:=[117,115,101]
noncomputable abbrev aW:S:=[114,101,115,117,108,116]
noncomputable abbrev bf:S:=[115,116,102,117,110,99]
noncomputable abbrev bL:S:=[100,105,109,115]
noncomputable abbrev bw:S:=[99,97,108,108,101,100]
noncomputable abbrev aV:S:=[101,120,116,101,114,110,97,108]
noncomputable abbrev aP:S:=[105,110,116,114,105,110,115,105,99]
noncomputable abbrev cz:S:=[105,110,116]
noncomputable abbrev bX:S:=[110,97,109,101]
noncomputable abbrev aX:S:=[105,109,112,108,105,99,105,116]
noncomputable abbrev cu:S:=[107,105,110,100]
noncomputable abbrev br:S:=[115,121,109,98,111,108,115]
noncomputable abbrev dJ:S:=[103,101,116]
noncomputable abbrev eo:S:=[118,97,114]
noncomputable abbrev cW:S:=[115,97,118,101]
noncomputable abbrev dD:S:=[116,121,112,101]
noncomputable abbrev bU:S:=[97,112,112,108,105,101,100]
noncomputable abbrev cQ:S:=[115,112,101,99,115]
noncomputable abbrev cR:S:=[97,115,107,101,100]
noncomputable abbrev cS:S:=[100,117,109,109,121]
noncomputable abbrev cN:S:=[108,101,110,103,116,104]
noncomputable abbrev b9:S:=[105,115,95,100,117,109,109,121]
noncomputable abbrev cg:S:=[105,115,95,115,97,118,101,100]
noncomputable abbrev fh:S:=[98,111,100,121]
noncomputable abbrev cj:S:=[99,111,110,115,116,97,110,116,115]
noncomputable abbrev fO:S:=[118,97,108,117,101]
noncomputable abbrev cX:S:=[102,117,110,99,116,105,111,110]
noncomputable abbrev dH:S:=[100,117,109,109,105,101,115]
noncomputable abbrev dI:S:=[115,116,102,117,110,99,115]
noncomputable abbrev iY:S:=[109,101,116]
noncomputable abbrev gD:S:=[114,117,108,101,115]
noncomputable abbrev b6:S:=[116,111,112,95,101,120,112,111,110,101,110,116]
noncomputable abbrev gF:S:=[116,121,112,101,100]
noncomputable abbrev gG:S:=[97,114,114,97,121]
noncomputable abbrev iH:S:=[105,110,116,114]
noncomputable abbrev eF:S:=[101,110,116,114,105,101,115]
noncomputable abbrev iz:S:=[105,110,100,101,120]
noncomputable abbrev jm:S:=[116,111,108,100]
noncomputable abbrev iA:S:=[119,105,100,116,104]
noncomputable abbrev cM:S:=[105,115,95,105,110,116,114,105,110,115,105,99]
noncomputable abbrev gH:S:=[108,105,109,105,116,115]
noncomputable abbrev iB:S:=[100,97,116,97,115]
noncomputable abbrev dX:S:=[100,105,109,101,110,115,105,111,110]
noncomputable abbrev dP:S:=[114,101,97,108,95,100,105,103,105,116,115]
noncomputable abbrev dF:S:=[100,111,117,98,108,101,95,100,105,103,105,116,115]
noncomputable abbrev gV:S:=[99,111,109,109,111,110,115]
noncomputable abbrev iI:S:=[101,113,117,105,118,115]
noncomputable abbrev jo:S:=[115,97,118,101,115]
noncomputable abbrev kZ:S:=[115,116,101,112,115]
noncomputable abbrev eN:S:=[99,111,110,116,105,110,117,97,116,105,111,110,115]
noncomputable abbrev iZ:S:=[99,111,108,117,109,110,115]
noncomputable abbrev k9:S:=[100,101,112,116,104]
noncomputable abbrev i6:S:=[102,111,114,109,97,116,115]
noncomputable abbrev jJ:S:=[108,97,98,101,108,115]
noncomputable abbrev i7:S:=[112,114,111,103,114,97,109]
noncomputable abbrev jq:S:=[65,66,67,68,69,70,71,72,73,74,75,76,77,78,79,80,81,82,83,84,85,86,87,88,89,90]
noncomputable def As:S->S->Bool
 |[],[]=>true
 |a::x,b::y=>match Nat.beq a b with
  |true=>As x y
  |false=>false
 |_,_=>false
set_option genCtorIdx true in
inductive V where
 |none|bool (b:Bool)|int (i:Int)|str (s:S)|tup (l:List V)|lst (l:List V)|dct (l:List (S×V))
 |inst (c d:Nat)|ref (i:Nat)|fn (a:Nat)|jl
 deriving Inhabited
set_option genCtorIdx true in
inductive By where
 |free
 |pen
 |list (l:List V)
 |dict (tab:List (S×Option V)) (ord:List S)
 deriving Inhabited
structure G where
 hp:List (Nat×By)
 left:Nat
 lk:List Nat
 deriving Inhabited
inductive ME where
 |none|bool (b:Bool)|int (i:Int)|str (s:S)
 |loc (x:Nat)|glob (x:Nat)
 |tup (l:List ME)|lst (p:Nat) (l:List ME)|dict (p:Nat) (l:List (S×ME))
 |attr (e:ME) (a:S)
 |sub (e i:ME)|slice (e:ME) (lo hi:Option ME)
 |bin (op:Nat) (a b:ME)|mul (p:Nat) (a b:ME)
 |neg (a:ME)|not (a:ME)|and (l:List ME)|or (l:List ME)
 |ite (c a b:ME)
 |cmp (op:Nat) (a b:ME)|Bc (o1 o2:Nat) (a b c:ME)
 |call (f:ME) (l:List ME)|mcall (o:ME) (m:S) (l:List ME)
 |len (e:ME)|abs (e:ME)|list (e:ME)|isi (e:ME) (mask:Nat)
 |filt (x:Nat) (it:ME) (l:List S)
 |facts
 |any
 deriving Inhabited
inductive MS where
 |expr (e:ME)
 |asg (x:Nat) (e:ME)|xg (xs:List Nat) (e:ME)|asgA (o:ME) (a:S) (e:ME)|g7 (o i e:ME)
 |aug (x op:Nat) (e:ME)
 |ifs (c:ME) (a b:List MS)
 |gw (x:Nat) (it:ME) (b:List MS)|g8 (xs:List Nat) (it:ME) (b:List MS)|forR (x:Nat) (lo:Option ME) (hi:ME) (b:List MS)
 |whl (c:ME) (b:List MS)
 |ret (e:Option ME)
 |raise (s:S)
 |tr (b:List MS) (x:Nat) (h:List MS)
 |cont
 |any
 deriving Inhabited
abbrev Loc:=List (Nat×V)
set_option genCtorIdx true in
inductive R(α:Type)where
 |ok (a:α) (g:G)
 |ex
 |st
 |ask (k:Nat) (c:Nat->R α)
set_option genCtorIdx true in
inductive Fl where
 |next (l:Loc)|cont (l:Loc)|ret (v:V)
noncomputable def R.bind{α β:Type}(r:R α)(f:α->G->R β):R β:=match r with
 | .ok a g=>f a g
 | .ex=>.ex
 | .st=>.st
 | .ask k c=>.ask k λi=>(c i).bind f
noncomputable def R.tr{α:Type}(r h:R α):R α:=match r with
 | .ok a g=>.ok a g
 | .ex=>h
 | .st=>.st
 | .ask k c=>.ask k λi=>(c i).tr h
noncomputable def opt{α:Type}(o:Option α)(g:G):R α:=match o with
 |some a=>.ok a g
 |none=>.st
structure Fn where
 ps:List Nat
 df:List V
 body:List MS
structure EM where
 init:Nat
 ms:List (S×Nat)
structure Cfg where
 ft:List (Nat×Fn)
 ct:List (Nat×EM)
 gt:List (Nat×V)
 tR:Nat->List V->Option Nat
 tmpl:Nat->List S
 excs:List Nat
 exc:Nat
 names:List S
 prim:Nat->List V->G->Option (R V)
theorem kj{a b:Bool}(h:a=true)(k:b=true):(a&&b)=true:=by rw[h,k];rfl
theorem aj{a b:Bool}(h:(a&&b)=true):a=true:=by
 cases a with
 |true=>rfl
 |false=>exact h
theorem ak{a b:Bool}(h:(a&&b)=true):b=true:=by
 cases a with
 |true=>exact h
 |false=>exact nomatch h
theorem aL{α:Type}{x:α}{p:Prop}(h:none=some x):p:=nomatch h
noncomputable def aT{α:Type}:List (Nat×α)->Nat->Option α
 |[],_=>none
 |p::l,i=>match Nat.beq p.1 i with
  |true=>some p.2
  |false=>aT l i
noncomputable def jf{α:Type}:List (Nat×α)->Nat->α->List (Nat×α)
 |[],i,a=>[(i,a)]
 |p::l,i,a=>match Nat.beq p.1 i with
  |true=>(i,a)::l
  |false=>p::jf l i a
noncomputable def SX{α:Type}:List (S×α)->S->Option α
 |[],_=>none
 |p::l,k=>match As p.1 k with
  |true=>some p.2
  |false=>SX l k
noncomputable def T5(l:List (S×Option V))(k:S)(v:V):Option (List (S×Option V)):=match l with
 |[]=>none
 |p::r=>match As p.1 k with
  |true=>some ((p.1,some v)::r)
  |false=>match T5 r k v with
   |some r=>some (p::r)
   |none=>none
noncomputable def S3(tab:List (S×Option V))(k:S):Option V:=match SX tab k with
 |some (some v)=>some v
 |_=>none
noncomputable def EN(tab:List (S×Option V))(ord:List S)(k:S):List S:=match S3 tab k with
 |some _=>ord
 |none=>ord++[k]
noncomputable def By.put(c:By)(k:S)(v:V):Option By:=match c with
 | .dict tab ord=>match T5 tab k v with
  |some t=>some (.dict t (EN tab ord k))
  |none=>none
 |_=>none
noncomputable def G.get(g:G)(i:Nat):By:=match aT g.hp i with
 |some c=>c
 |none=>.free
noncomputable def lkd:List Nat->Nat->Bool
 |[],_=>false
 |a::l,i=>match Nat.beq a i with
  |true=>true
  |false=>lkd l i
noncomputable def G.put(g:G)(i:Nat)(c:By):Option G:=match lkd g.lk i with
 |true=>none
 |false=>some ⟨jf g.hp i c,g.left,g.lk⟩
noncomputable def G.set(g:G)(i:Nat)(c:By):R Unit:=match g.put i c with
 |some g=>.ok () g
 |none=>.st
noncomputable def G.tick(g:G):R Unit:=match g.left with
 |0=>.st
 |n+1=>.ok () ⟨g.hp,n,g.lk⟩
noncomputable def G.alloc(g:G)(i:Nat)(c:By):R V:=match aT g.hp i with
 |some .free=>.ok (.ref i) ⟨jf g.hp i c,g.left,g.lk⟩
 |_=>.st
noncomputable def sok:S->Bool
 |[]=>true
 |c::r=>match Nat.blt c 128 with
  |true=>sok r
  |false=>false
noncomputable def vok:Nat->V->Bool
 |_,.none=>true
 |_,.bool _=>true
 |_,.int _=>true
 |_,.str _=>true
 |n+1,.tup l=>l.all (vok n)
 |n+1,.lst l=>l.all (vok n)
 |_,_=>false
mutual
noncomputable def veq:V->V->Option Bool
 | .none,.none=>some true
 | .bool a,.bool b=>some (a==b)
 | .int a,.int b=>some (decide (a=b))
 | .str a,.str b=>some (As a b)
 | .tup a,.tup b=>Ui a b
 | .lst a,.lst b=>Ui a b
 | .none,.int _| .none,.str _| .none,.tup _| .none,.lst _| .none,.bool _=>some false
 | .int _,.none| .int _,.str _| .int _,.tup _| .int _,.lst _=>some false
 | .str _,.none| .str _,.int _| .str _,.tup _| .str _,.lst _| .str _,.bool _=>some false
 | .tup _,.none| .tup _,.int _| .tup _,.str _| .tup _,.lst _| .tup _,.bool _=>some false
 | .lst _,.none| .lst _,.int _| .lst _,.str _| .lst _,.tup _| .lst _,.bool _=>some false
 |_,_=>none
noncomputable def Ui:List V->List V->Option Bool
 |[],[]=>some true
 |a::x,b::y=>match veq a b with
  |some true=>Ui x y
  |some false=>match Ui x y with
   |some _=>some false
   |none=>none
  |none=>none
 |[],_::_=>some false
 |_::_,[]=>some false
end
noncomputable def SY(g:G):V->Option (List V)
 | .lst l=>some l
 | .ref i=>match g.get i with
  | .list l=>some l
  |_=>none
 |_=>none
noncomputable def gz(g:G):V->Option (List V)
 | .lst l=>some l
 | .tup l=>some l
 | .dct l=>some (l.map λp=>.str p.1)
 | .ref i=>match g.get i with
  | .list l=>some l
  | .dict _ ord=>some (ord.map .str)
  |_=>none
 |_=>none
noncomputable def vin(x:V):List V->Option Bool
 |[]=>some false
 |y::l=>match veq y x with
  |some true=>some true
  |some false=>vin x l
  |none=>none
noncomputable def grd{α:Type}(c:Bool)(x:Option α):Option α:=match c with
 |true=>x
 |false=>none
noncomputable def onI{α:Type}(f:Int->Option α)(v:V):Option α:=match v with
 | .int k=>f k
 |_=>none
noncomputable def onS{α:Type}(f:S->Option α)(v:V):Option α:=match v with
 | .str k=>f k
 |_=>none
noncomputable def onC{α:Type}(g:G)(i:Nat)(fl:List V->Option α)(fd:List (S×Option V)->List S->Option α):Option α:=match g.get i with
 | .list l=>fl l
 | .dict t o=>fd t o
 |_=>none
theorem xm{α:Type}{g:G}{i:Nat}{fl:List V->Option α}{fd:List (S×Option V)->List S->Option α}{l:List V}(h:g.get i=.list l):onC g i fl fd=fl l:=by
 show(match g.get i with| .list l=>fl l| .dict t o=>fd t o|_=>none)=_
 rw[h]
theorem xq{α:Type}{g:G}{i:Nat}{fl:List V->Option α}{fd:List (S×Option V)->List S->Option α}{t:List (S×Option V)}{o:List S}(h:g.get i=.dict t o):onC g i fl fd=fd t o:=by
 show(match g.get i with| .list l=>fl l| .dict t o=>fd t o|_=>none)=_
 rw[h]
theorem tQ{g:G}{i:Nat}{l:List V}(h:g.get i=.list l):SY g (.ref i)=some l:=by
 show(match g.get i with| .list l=>some l|_=>none)=_
 rw[h]
noncomputable def deq(a b:V):Option Bool:=grd (vok 8 a&&vok 8 b) (veq a b)
noncomputable def din(x:V)(l:List V):Option Bool:=grd (vok 8 x&&l.all (vok 8)) (vin x l)
noncomputable def UA(a b:List (S×Option V))(ord:List S):Option Bool:=match ord with
 |[]=>some true
 |k::r=>match S3 a k,S3 b k with
  |some x,some y=>match deq x y,UA a b r with
   |some c,some d=>some (c&&d)
   |_,_=>none
  |_,_=>some false
noncomputable def geq(g:G)(a b:V):Option Bool:=match a with
 | .ref i=>match b with
  | .ref j=>onC g i (λ_=>none) λta oa=>onC g j (λ_=>none) λtb ob=>match Nat.beq oa.length ob.length with
   |true=>UA ta tb oa
   |false=>some false
  | .lst r=>(SY g (.ref i)).bind λl=>deq (.lst l) (.lst r)
  |_=>none
 |a=>deq a b
noncomputable def llt:S->S->Bool
 |[],[]=>false
 |[],_::_=>true
 |_::_,[]=>false
 |a::x,b::y=>match Nat.beq a b with
  |true=>llt x y
  |false=>Nat.blt a b
noncomputable def vlt(a b:V):Option Bool:=match a with
 | .int x=>onI (λy=>some (decide (x < y))) b
 | .str x=>onS (λy=>some (llt x y)) b
 |_=>none
noncomputable def contains(g:G)(x y:V):Option Bool:=match y with
 | .tup l=>din x l
 | .lst l=>din x l
 | .dct l=>onS (λk=>some (SX l k).isSome) x
 | .ref i=>onC g i (λl=>din x l) λtab _=>onS (λk=>some (S3 tab k).isSome) x
 |_=>none
noncomputable def isNone:V->Bool
 | .none=>true
 |_=>false
noncomputable def SI(g:G)(op:Nat)(a b:V):Option Bool:=match op with
 |0=>geq g a b
 |1=>(geq g a b).map (!·)
 |2=>vlt a b
 |3=>(vlt b a).map (!·)
 |4=>vlt b a
 |5=>(vlt a b).map (!·)
 |6=>grd (isNone b) (some (isNone a))
 |7=>grd (isNone b) (some (!isNone a))
 |8=>contains g a b
 |9=>(contains g a b).map (!·)
 |_=>none
noncomputable def Qx:List V->Bool
 |[]=>false
 |_=>true
noncomputable def truthy(g:G)(v:V):Option Bool:=match v with
 | .bool b=>some b
 |v=>(SY g v).map Qx
noncomputable def big:Nat:=1000000
noncomputable def S6(g:G)(op:Nat)(a b:V):Option V:=match op with
 |0=>match a with
  | .int x=>onI (λy=>some (.int (x+y))) b
  | .str x=>onS (λy=>grd (Nat.ble (x.length+y.length) big) (some (.str (x++y)))) b
  |a=>(SY g a).bind λx=>(SY g b).bind λy=>grd (Nat.ble (x.length+y.length) big) (some (.lst (x++y)))
 |1=>onI (λx=>onI (λy=>some (.int (x - y))) b) a
 |2=>onI (λx=>onI (λy=>grd (decide (x.natAbs<=1000000)) (some (.int (x * y)))) b) a
 |3=>onI (λx=>onI (λy=>grd (!decide (y=0)&&decide (y.natAbs < 1073741824)) (some (.int (Int.fdiv x y)))) b) a
 |4=>onI (λx=>onI (λy=>grd (!decide (y=0)) (some (.int (Int.fmod x y)))) b) a
 |5=>onI (λx=>onI (λy=>grd (decide (x=1)&&(decide (0<=y)&&decide (y<=64))) (some (.int (2 ^ y.toNat)))) b) a
 |_=>none
noncomputable def rep:Nat->List V->List V
 |0,_=>[]
 |n+1,l=>l++rep n l
noncomputable def idx(n:Nat)(i:Int):Option Nat:=match decide (0<=i)with
 |true=>some i.toNat
 |false=>grd (decide (0<=i+n)) (some (i+n).toNat)
noncomputable def item(g:G)(a i:V):Option V:=match a with
 | .tup l=>onI (λk=>grd (decide (0<=k)&&decide (k<=1000000)) l[k.toNat]?) i
 | .lst l=>onI (λk=>grd (decide (k<=1000000)&&decide (-1000000<=k)) ((idx l.length k).bind λn=>l[n]?)) i
 | .str s=>onI (λk=>grd (decide (0<=k)&&decide (k<=1000000)) ((s[k.toNat]?).map λc=>.str [c])) i
 | .dct l=>onS (λk=>SX l k) i
 | .ref j=>onC g j (λl=>onI (λk=>(idx l.length k).bind λn=>l[n]?) i) λtab _=>onS (λk=>S3 tab k) i
 |_=>none
noncomputable def bound(d:Nat):V->Option Nat
 | .none=>some d
 | .int k=>match decide (0<=k)with
  |true=>some k.toNat
  |false=>none
 |_=>none
noncomputable def cut(l:List V)(lo hi:Nat):List V:=(l.take hi).drop lo
noncomputable def slice(g:G)(a lo hi:V):Option V:=match a with
 | .tup l=>onI (λk=>grd (isNone hi&&(decide (1<=k)&&Nat.ble k.toNat l.length)) (some (.tup (l.drop k.toNat)))) lo
 |a=>(SY g a).bind λl=>(bound 0 lo).bind λx=>(bound l.length hi).map λy=>.lst (cut l x y)
noncomputable def p6:S:=jq
noncomputable def find(s:S)(c:S):Option Int:=match As s p6 with
 |true=>SX [([65],0),([66],1),([67],2),([73],8),([83],18),([74],9)] c
 |false=>none
noncomputable def kindOf(g:G):V->Option Nat
 | .dct _=>some 1
 | .lst _=>some 2
 | .jl=>some 2
 | .tup _=>some 4
 | .ref i=>match g.get i with
  | .list _=>some 2
  | .dict _ _=>some 1
  |_=>none
 | .none=>some 0| .bool _=>some 0| .int _=>some 0| .str _=>some 0
 |_=>none
noncomputable def Td(l:List V)(x:V):Option Int:=match l with
 |[]=>none
 |y::r=>match veq y x with
  |some true=>some 0
  |some false=>(Td r x).map (·+1)
  |none=>none
noncomputable def Tz:List V->Option (List S)
 |[]=>some []
 | .str s::r=>(Tz r).map (s::·)
 |_::_=>none
noncomputable def VQ(g:G)(v:V):Option Nat:=match v with
 | .tup vs=>some vs.length
 | .str s=>grd (Nat.ble s.length big) (some s.length)
 |v=>(SY g v).map List.length
noncomputable def M0(p:Nat)(x y:V):Option (Nat×List V):=match x with
 | .lst vs=>onI (λn=>grd (Nat.ble 2 p&&(decide (0<=n)&&Nat.ble ((vs.length+1) * n.toNat) 1000)) (some (p - 2,rep n.toNat vs))) y
 |_=>none
noncomputable def Te(c:By)(k v:V):Option By:=match c with
 | .list vs=>onI (λn=>grd (decide (0<=n)&&Nat.blt n.toNat vs.length) (some (.list (vs.set n.toNat v)))) k
 |c=>onS (λs=>c.put s v) k
structure Fs where
 e:Loc->G->ME->R V
 s:Loc->G->MS->R Fl
 c:G->V->List V->R V
noncomputable def evs(f:Fs)(l:Loc):G->List ME->R (List V)
 |g,[]=>.ok [] g
 |g,e::r=>(f.e l g e).bind λv g=>(evs f l g r).bind λvs g=>.ok (v::vs) g
noncomputable def evd(f:Fs)(l:Loc):G->List (S×ME)->R (List (S×V))
 |g,[]=>.ok [] g
 |g,p::r=>(f.e l g p.2).bind λv g=>(evd f l g r).bind λvs g=>.ok ((p.1,v)::vs) g
noncomputable def evo(f:Fs)(l:Loc)(g:G):Option ME->R V
 |none=>.ok .none g
 |some e=>f.e l g e
noncomputable def tst(f:Fs)(l:Loc)(g:G)(e:ME):R Bool:=(f.e l g e).bind λv g=>opt (truthy g v) g
noncomputable def UH(f:Fs)(l:Loc):G->List ME->R V
 |_,[]=>.st
 |g,[e]=>f.e l g e
 |g,e::r=>(f.e l g e).bind λv g=>match truthy g v with
  |some true=>UH f l g r
  |some false=>.ok v g
  |none=>.st
noncomputable def ors(f:Fs)(l:Loc):G->List ME->R V
 |_,[]=>.st
 |g,[e]=>f.e l g e
 |g,e::r=>(f.e l g e).bind λv g=>match truthy g v with
  |some true=>.ok v g
  |some false=>ors f l g r
  |none=>.st
noncomputable def blk(f:Fs):Loc->G->List MS->R Fl
 |l,g,[]=>.ok (.next l) g
 |l,g,s::r=>(f.s l g s).bind λx g=>match x with
  | .next l=>blk f l g r
  |x=>.ok x g
noncomputable def loop(f:Fs)(step:Loc->V->Option Loc)(b:List MS):Loc->G->List V->R Fl
 |l,g,[]=>.ok (.next l) g
 |l,g,v::r=>match step l v with
  |none=>.st
  |some l=>(blk f l g b).bind λx g=>match x with
   | .next l=>loop f step b l g r
   | .cont l=>loop f step b l g r
   | .ret v=>.ok (.ret v) g
noncomputable def VR(g:G)(v:V):G:=match v with
 | .ref i=>⟨g.hp,g.left,i::g.lk⟩
 |_=>g
noncomputable def TA(g:G)(v:V)(k:G->R Fl):R Fl:=(k (VR g v)).bind λx h=>.ok x ⟨h.hp,h.left,g.lk⟩
noncomputable def bY(l:Loc)(x:Nat)(v:V):Loc:=jf l x v
noncomputable def Uq(l:Loc):List Nat->List V->Option Loc
 |[],[]=>some l
 |x::xs,v::vs=>Uq (bY l x v) xs vs
 |_,_=>none
noncomputable def SK(l:Loc)(xs:List Nat)(v:V):Option Loc:=match v with
 | .tup vs=>Uq l xs vs
 |_=>none
noncomputable def Tj:List Nat->List V->List V->Option Loc
 |[],[],d=>match d with
  |[]=>some []
  |_=>none
 |x::xs,v::vs,d=>(Tj xs vs d).map ((x,v)::·)
 |x::xs,[],d=>match Nat.beq (xs.length+1) d.length with
  |true=>some ((x::xs).zip d)
  |false=>none
 |[],_::_,_=>none
noncomputable def lP(lo hi:Int):List V:=(List.range (hi - lo).toNat).map λ(i:Nat)=>V.int (lo+(i:Int))
noncomputable def clean:Loc->Loc
 |[]=>[]
 |(x,v)::r=>match v with
  | .bool b=>(x,.bool b)::clean r
  | .int b=>(x,.int b)::clean r
  | .none=>(x,.none)::clean r
  | .str b=>(x,.str b)::clean r
  |_=>(x,.jl)::clean r
noncomputable def qk:G->List (Nat×By)->R Unit
 |g,[]=>.ok () g
 |g,(i,c)::r=>(g.alloc i c).bind λ_ g=>qk g r
noncomputable def slots(C:Cfg)(d:Nat):By:=.dict ((C.tmpl d).map λs=>(s,none)) []
noncomputable def TH:List V->Bool
 |[]=>true
 | .int _::r=>TH r
 |_=>false
noncomputable def Ur(g:G):List V->R V
 |[.lst (x::l),.int 0]=>match TH (x::l),Nat.ble l.length 1000 with
  |true,true=>g.alloc 0 .pen
  |_,_=>.st
 |_=>.st
noncomputable def T6(C:Cfg)(f:Fs)(g:G)(a:Nat)(k:EM)(vs:List V):R V:=match C.tR a vs with
 |none=>.st
 |some d=>match aT C.ft k.init with
  |none=>.st
  |some fd=>match Tj fd.ps (.inst a d::vs) fd.df with
   |none=>.st
   |some l=>(g.alloc d (slots C d)).bind λ_ g=>(blk f l g fd.body).bind λx g=>match x with
    | .next _=>.ok (.inst a d) g
    |_=>.st
noncomputable def SP(C:Cfg)(a:Nat):Bool:=match aT C.ft a with
 |some _=>true
 |none=>match aT C.ct a with
  |some _=>true
  |none=>false
inductive Lk where
 |app|find|get|idx|fn (a:Nat) (self:Bool)
noncomputable def lq:S:=aF
noncomputable def Mf:S:=[102,105,110,100]
noncomputable def EO:S:=dJ
noncomputable def vf:S:=iz
noncomputable def look(C:Cfg)(g:G)(o:V)(m:S):Option Lk:=match o with
 | .jl=>match As m lq with
  |true=>some .app
  |false=>none
 | .str _=>match As m Mf with
  |true=>some .find
  |false=>none
 | .dct _=>match As m EO with
  |true=>some .get
  |false=>none
 | .ref i=>match g.get i with
  | .list _=>match As m lq with
   |true=>some .app
   |false=>match As m vf with
    |true=>some .idx
    |false=>none
  | .dict _ _=>match As m EO with
   |true=>some .get
   |false=>none
  |_=>none
 | .inst a d=>match aT C.ct a,g.get d with
  |some k,.dict tab _=>match SX k.ms m,S3 tab m with
   |some fa,none=>match SP C fa with
    |true=>some (.fn fa true)
    |false=>none
   |none,some (.fn fa)=>match C.ct.all (λc=>(SX c.2.ms m).isNone),SP C fa with
    |true,true=>some (.fn fa false)
    |_,_=>none
   |_,_=>none
  |_,_=>none
 |_=>none
noncomputable def Ua(f:Fs)(g:G)(o:V)(k:Lk)(vs:List V):R V:=match k with
 | .app=>match o,vs with
  | .jl,[_]=>g.tick.bind λ_ g=>.ok .none g
  | .ref i,[v]=>match g.get i with
   | .list l=>g.tick.bind λ_ g=>(g.set i (.list (l++[v]))).bind λ_ g=>.ok .none g
   |_=>.st
  |_,_=>.st
 | .find=>match o,vs with
  | .str s,[.str c]=>opt ((find s c).map .int) g
  |_,_=>.st
 | .get=>match o,vs with
  | .dct l,[.str k,d]=>.ok (match SX l k with|some v=>v|none=>d) g
  | .ref i,[.str k,d]=>match g.get i with
   | .dict tab _=>.ok (match S3 tab k with|some v=>v|none=>d) g
   |_=>.st
  | .ref i,[.str k]=>match g.get i with
   | .dict tab _=>.ok (match S3 tab k with|some v=>v|none=>.none) g
   |_=>.st
  |_,_=>.st
 | .idx=>match o,vs with
  | .ref i,[v]=>match g.get i with
   | .list l=>match vok 8 v,l.all (vok 8)with
    |true,true=>opt ((Td l v).map .int) g
    |_,_=>.st
   |_=>.st
  |_,_=>.st
 | .fn a self=>match self with
  |true=>f.c g (.fn a) (o::vs)
  |false=>f.c g (.fn a) vs
noncomputable def UI(C:Cfg)(f:Fs)(l:Loc)(g:G):ME->R V
 | .none=>.ok .none g
 | .bool b=>.ok (.bool b) g
 | .int i=>.ok (.int i) g
 | .str s=>.ok (.str s) g
 | .loc x=>opt (aT l x) g
 | .glob x=>opt (aT C.gt x) g
 | .tup es=>(evs f l g es).bind λvs g=>.ok (.tup vs) g
 | .lst p es=>(evs f l g es).bind λvs g=>match p with
  |0=>.ok (.lst vs) g
  |1=>match vs with
   |[]=>.ok .jl g
   |_=>.st
  |2=>Ur g vs
  |k+3=>g.alloc (k+1) (.list vs)
 | .dict p es=>(evd f l g es).bind λvs g=>match p with
  |0=>.ok (.dct vs) g
  |1=>.st
  |k+2=>match vs with
   |[]=>g.alloc k (slots C k)
   |_=>.st
 | .attr e a=>(f.e l g e).bind λv g=>match v with
  | .inst c d=>match aT C.ct c,g.get d with
   |some _,.dict tab _=>opt (S3 tab a) g
   |_,_=>.st
  |_=>.st
 | .sub e i=>(f.e l g e).bind λa g=>(f.e l g i).bind λb g=>opt (item g a b) g
 | .slice e lo hi=>(f.e l g e).bind λa g=>(evo f l g lo).bind λx g=>(evo f l g hi).bind λy g=>opt (slice g a x y) g
 | .bin op a b=>(f.e l g a).bind λx g=>(f.e l g b).bind λy g=>opt (S6 g op x y) g
 | .mul p a b=>(f.e l g a).bind λx g=>(f.e l g b).bind λy g=>match M0 p x y with
  |some q=>g.alloc q.1 (.list q.2)
  |none=>.st
 | .neg a=>(f.e l g a).bind λx g=>opt (onI (λi=>some (.int (-i))) x) g
 | .not a=>(tst f l g a).bind λb g=>.ok (.bool (!b)) g
 | .and es=>UH f l g es
 | .or es=>ors f l g es
 | .ite c a b=>(tst f l g c).bind λt g=>match t with
  |true=>f.e l g a
  |false=>f.e l g b
 | .cmp op a b=>(f.e l g a).bind λx g=>(f.e l g b).bind λy g=>opt ((SI g op x y).map .bool) g
 | .Bc o1 o2 a b c=>(f.e l g a).bind λx g=>(f.e l g b).bind λy g=>match SI g o1 x y with
  |some true=>(f.e l g c).bind λz g=>opt ((SI g o2 y z).map .bool) g
  |some false=>.ok (.bool false) g
  |none=>.st
 | .call e es=>(f.e l g e).bind λv g=>match v with
  | .fn a=>match SP C a with
   |true=>(evs f l g es).bind λvs g=>f.c g (.fn a) vs
   |false=>.st
  |_=>.st
 | .mcall o m es=>(f.e l g o).bind λv g=>match look C g v m with
  |some k=>(evs f l g es).bind λvs g=>Ua f g v k vs
  |none=>.st
 | .len e=>(f.e l g e).bind λv g=>opt ((VQ g v).map λ(k:Nat)=>V.int k) g
 | .abs e=>(f.e l g e).bind λv g=>opt (onI (λi=>some (.int i.natAbs)) v) g
 | .list e=>(f.e l g e).bind λv g=>opt ((gz g v).map .lst) g
 | .isi e mask=>(f.e l g e).bind λv g=>opt ((kindOf g v).map λk=>.bool (Nat.land k mask != 0)) g
 | .filt _ it cs=>(f.e l g it).bind λv g=>match(SY g v).bind Tz with
  |some ss=>.ok (.lst ((ss.filter λs=>cs.any (As s)).map .str)) g
  |none=>.st
 | .facts=>(qk g (((List.range C.names.length).map λi=>(100+i,By.list [])))).bind λ_ g=>g.alloc 5 (.dict (C.names.zipIdx.map λ(n,i)=>(n,some (.ref (100+i)))) C.names)
 | .any=>.st
noncomputable def UJ(C:Cfg)(f:Fs)(l:Loc)(g:G):MS->R Fl
 | .expr e=>(f.e l g e).bind λ_ g=>.ok (.next l) g
 | .asg x e=>(f.e l g e).bind λv g=>.ok (.next (bY l x v)) g
 | .xg xs e=>(f.e l g e).bind λv g=>match SK l xs v with
  |some l=>.ok (.next l) g
  |none=>.st
 | .asgA o a e=>(f.e l g e).bind λv g=>(f.e l g o).bind λw g=>match w with
  | .inst k d=>match aT C.ct k,(g.get d).put a v with
   |some _,some c=>(g.set d c).bind λ_ g=>.ok (.next l) g
   |_,_=>.st
  |_=>.st
 | .g7 o i e=>(f.e l g e).bind λv g=>(f.e l g o).bind λw g=>(f.e l g i).bind λk g=>match w with
  | .ref j=>match Te (g.get j) k v with
   |some c=>(g.set j c).bind λ_ g=>.ok (.next l) g
   |none=>.st
  |_=>.st
 | .aug x op e=>match aT l x with
  |some (.int i)=>(f.e l g e).bind λw g=>match w with
   | .int j=>match S6 g op (.int i) (.int j)with
    |some r=>.ok (.next (bY l x r)) g
    |none=>.st
   |_=>.st
  |_=>.st
 | .ifs c a b=>(tst f l g c).bind λt g=>match t with
  |true=>blk f l g a
  |false=>blk f l g b
 | .gw x it b=>(f.e l g it).bind λv g=>match gz g v with
  |some vs=>TA g v λg=>loop f (λl v=>some (bY l x v)) b l g vs
  |none=>.st
 | .g8 xs it b=>(f.e l g it).bind λv g=>match gz g v with
  |some vs=>TA g v λg=>loop f (λl v=>SK l xs v) b l g vs
  |none=>.st
 | .forR x lo hi b=>(match lo with|none=>R.ok (V.int 0) g|some e=>f.e l g e).bind λp g=>(f.e l g hi).bind λq g=>match p,q with
  | .int p,.int q=>match Nat.ble p.natAbs big,Nat.ble q.natAbs big with
   |true,true=>loop f (λl v=>some (bY l x v)) b l g (lP p q)
   |_,_=>.st
  |_,_=>.st
 | .whl c b=>(tst f l g c).bind λt g=>match t with
  |false=>.ok (.next l) g
  |true=>(blk f l g b).bind λx g=>match x with
   | .next l=>f.s l g (.whl c b)
   | .cont l=>f.s l g (.whl c b)
   | .ret v=>.ok (.ret v) g
 | .ret e=>(evo f l g e).bind λv g=>.ok (.ret v) g
 | .raise _=>.ex
 | .tr b x h=>(blk f l g b).tr (match Nat.beq x C.exc with
   |true=>blk f (clean l) ⟨[],0,[]⟩ h
   |false=>.st)
 | .cont=>.ok (.cont l) g
 | .any=>.st
noncomputable def VH(C:Cfg)(f:Fs)(g:G)(v:V)(vs:List V):R V:=match v with
 | .fn a=>match C.prim a vs g with
  |some r=>r
  |none=>match aT C.ft a with
   |some fd=>match Tj fd.ps vs fd.df with
    |none=>.st
    |some l=>(blk f l g fd.body).bind λx g=>match x with
     | .ret v=>.ok v g
     | .next _=>.ok .none g
     | .cont _=>.st
   |none=>match aT C.ct a with
    |some k=>T6 C f g a k vs
    |none=>.st
 |_=>.st
noncomputable def step(C:Cfg)(f:Fs):Fs:=⟨UI C f,UJ C f,VH C f⟩
noncomputable def fs(C:Cfg):Nat->Fs
 |0=>⟨λ_ _ _=>.st,λ_ _ _=>.st,λ_ _ _=>.st⟩
 |n+1=>step C (fs C n)
noncomputable def pR:List MS:=[.asgA (.loc 1936026726) gD (.mul 20 (.lst 0 [.tup [.glob 1380270412,.none]]) (.int 26)),.forR 482854658917 (some (.int 8)) (.int 14) [.g7 (.attr (.loc 1936026726) gD) (.loc 482854658917) (.tup [.glob 20633797146395986,.none])],.asgA (.loc 1936026726) jm (.mul 21 (.lst 0 [.bool false]) (.int 26))]
noncomputable def ql:List MS:=[.g8 [1802071652,119182899770472,30510848328168051] (.loc 491596309875) [.g8 [439855772532,1818325876] (.loc 30510848328168051) [.expr (.call (.glob 36022874661761597682965901939) [.loc 1936026726,.tup [.loc 1802071652,.loc 119182899770472],.mcall (.glob 21468326723408467) [102,105,110,100] [.loc 439855772532],.mcall (.glob 21468326723408467) [102,105,110,100] [.loc 1818325876]])]]]
noncomputable def sM:List MS:=[.ret (some (.sub (.attr (.loc 1936026726) gD) (.mcall (.glob 21468326723408467) [102,105,110,100] [.sub (.loc 1851878757) (.int 0)])))]
noncomputable def qm:List MS:=[.ifs (.or [.cmp 2 (.loc 7106423) (.int 0),.cmp 2 (.loc 1751738216) (.loc 7106423)]) [.raise [108,101,116,116,101,114,115,32,116,104,97,116,32,100,111,32,110,111,116,32,97,115,99,101,110,100]] [],.forR 482854658917 (some (.loc 7106423)) (.bin 0 (.loc 1751738216) (.int 1)) [.ifs (.sub (.attr (.loc 7596851757370796404) jm) (.loc 482854658917)) [.raise [97,32,108,101,116,116,101,114,32,116,104,97,116,32,105,115,32,116,111,108,100,32,116,119,105,99,101]] []],.forR 482854658917 (some (.loc 7106423)) (.bin 0 (.loc 1751738216) (.int 1)) [.g7 (.attr (.loc 7596851757370796404) jm) (.loc 482854658917) (.bool true),.g7 (.attr (.loc 7596851757370796404) gD) (.loc 482854658917) (.loc 1920298085)]]
noncomputable def Ct:List MS:=[.asg 1836020596 (.bin 5 (.int 1) (.bin 1 (.loc 512869299304) (.int 1))),.ifs (.or [.cmp 2 (.loc 110) (.neg (.loc 1836020596)),.cmp 5 (.loc 110) (.loc 1836020596)]) [.any] [],.ret (some (.loc 110))]
noncomputable def OY:List MS:=[.ret (some (.bin 0 (.slice (.loc 1952807028) none (some (.loc 119182899770472))) (.bin 2 (.str [32]) (.bin 1 (.loc 119182899770472) (.len (.loc 1952807028))))))]
noncomputable def qo:List MS:=[.asg 110 (.abs (.loc 110)),.asg 427071729268 (.int 0),.whl (.cmp 5 (.loc 110) (.int 1000000000)) [.aug 110 3 (.int 1000000000),.aug 427071729268 0 (.int 9)],.whl (.cmp 4 (.loc 110) (.int 0)) [.aug 110 3 (.int 10),.aug 427071729268 0 (.int 1)],.ret (some (.loc 427071729268))]
noncomputable def sN:List MS:=[.ifs (.cmp 0 (.loc 109) (.int 0)) [.ret (some (.glob 86102640117844))] [],.whl (.cmp 0 (.bin 4 (.loc 109) (.int 10)) (.int 0)) [.aug 109 3 (.int 10),.aug 101 0 (.int 1)],.ret (some (.tup [.loc 109,.loc 101]))]
noncomputable def qp:List MS:=[.asg 1685221232 (.bin 1 (.call (.glob 30773761292696260933742851187) [.loc 109]) (.loc 110403869308019)),.ifs (.cmp 4 (.loc 1685221232) (.int 0)) [.asg 482906432882 (.any),.xg [1801810036,1919251316] (.any),.ifs (.or [.cmp 4 (.bin 2 (.int 2) (.loc 1919251316)) (.loc 482906432882),.and [.cmp 0 (.bin 2 (.int 2) (.loc 1919251316)) (.loc 482906432882),.cmp 0 (.bin 4 (.loc 1801810036) (.int 2)) (.int 1)]]) [.aug 1801810036 0 (.int 1)] [],.asg 109 (.ite (.cmp 4 (.loc 109) (.int 0)) (.loc 1801810036) (.neg (.loc 1801810036))),.aug 101 0 (.loc 1685221232)] [],.ret (some (.call (.glob 139576374294197187491557235) [.loc 109,.loc 101]))]
noncomputable def vg:List MS:=[.xg [109,101] (.call (.glob 35416036438863515460007720051) [.loc 109,.loc 101,.loc 110403869308019]),.asg 1818583396 (.bin 1 (.bin 0 (.loc 101) (.call (.glob 30773761292696260933742851187) [.loc 109])) (.int 1)),.ifs (.or [.cmp 0 (.loc 109) (.int 0),.cmp 2 (.loc 1818583396) (.neg (.loc 7630704))]) [.ret (some (.glob 86102640117844))] [],.ifs (.cmp 4 (.loc 1818583396) (.loc 7630704)) [.any] [],.ret (some (.tup [.loc 109,.loc 101]))]
noncomputable def sO:List MS:=[.ret (some (.call (.glob 540405829450432294248812) [.loc 110,.int 0,.loc 110403869308019,.loc 7630704]))]
noncomputable def xr:List MS:=[.ret (some (.ite (.cmp 0 (.loc 1802071652) (.glob 1380270412)) (.attr (.loc 119200062993523) dP) (.attr (.loc 119200062993523) dF)))]
noncomputable def Cu:List MS:=[.asg 110403869308019 (.call (.glob 1852269562616411549542) [.loc 29807,.loc 119200062993523]),.ifs (.cmp 0 (.loc 28518) (.glob 20633797146395986)) [.ret (some (.call (.glob 138296299594095474271415924) [.loc 508440638821,.loc 110403869308019,.attr (.loc 119200062993523) b6]))] [],.ifs (.cmp 0 (.loc 28518) (.glob 18946016917865816)) [.asg 508440638821 (.sub (.loc 508440638821) (.int 0))] [],.ret (some (.call (.glob 540405829450432294248812) [.sub (.loc 508440638821) (.int 0),.sub (.loc 508440638821) (.int 1),.loc 110403869308019,.attr (.loc 119200062993523) b6]))]
noncomputable def Cv:List MS:=[.ifs (.cmp 0 (.loc 28518) (.loc 29807)) [.ret (some (.loc 508440638821))] [],.ifs (.or [.cmp 0 (.loc 28518) (.glob 21479265820426572),.cmp 0 (.loc 28518) (.glob 1241138386023012910418),.cmp 0 (.loc 29807) (.glob 21479265820426572),.cmp 0 (.loc 29807) (.glob 1241138386023012910418)]) [.any] [],.ifs (.cmp 0 (.loc 29807) (.glob 18946016917865816)) [.ret (some (.tup [.call (.glob 32199616449438067) [.loc 508440638821,.loc 28518,.glob 1380270412,.loc 119200062993523],.glob 86102640117844]))] [],.ifs (.or [.cmp 0 (.loc 29807) (.glob 1380270412),.cmp 0 (.loc 29807) (.glob 75107523513413)]) [.ret (some (.call (.glob 32199616449438067) [.loc 508440638821,.loc 28518,.loc 29807,.loc 119200062993523]))] [],.ifs (.cmp 0 (.loc 28518) (.glob 18946016917865816)) [.asg 508440638821 (.sub (.loc 508440638821) (.int 0))] [],.ret (some (.call (.glob 28826396162354804) [.call (.glob 138296299594101010484260468) [.loc 508440638821],.attr (.loc 119200062993523) iA]))]
noncomputable def pS:List MS:=[.asg 461330343027 (.dict 0 [(cz,.glob 20633797146395986),([114,101,97,108],.glob 1380270412),([100,98,108,101],.glob 75107523513413),([99,112,108,120],.glob 18946016917865816),([108,111,103],.glob 21479265820426572),([99,104,97,114],.glob 1241138386023012910418)]),.ret (some (.mcall (.loc 461330343027) dJ [.sub (.loc 1953654117) (.int 0),.neg (.int 1)]))]
noncomputable def nX:List MS:=[.asg 1802071652 (.call (.glob 7878074452061484852980316991076) [.loc 1953654117]),.ifs (.or [.cmp 0 (.loc 1802071652) (.glob 21479265820426572),.cmp 0 (.loc 1802071652) (.glob 1241138386023012910418)]) [.ret (some (.tup [.loc 1802071652,.sub (.loc 1953654117) (.int 1)]))] [],.ifs (.cmp 0 (.loc 1802071652) (.glob 20633797146395986)) [.ret (some (.tup [.loc 1802071652,.call (.glob 28826396162354804) [.sub (.loc 1953654117) (.int 1),.attr (.loc 119200062993523) iA]]))] [],.ifs (.cmp 0 (.loc 1802071652) (.glob 18946016917865816)) [.ret (some (.tup [.loc 1802071652,.tup [.call (.glob 530702627578329757939045) [.sub (.loc 1953654117) (.int 1),.loc 119200062993523],.call (.glob 530702627578329757939045) [.sub (.loc 1953654117) (.int 2),.loc 119200062993523]]]))] [],.ret (some (.tup [.loc 1802071652,.call (.glob 540405829450432294248812) [.sub (.loc 1953654117) (.int 1),.sub (.loc 1953654117) (.int 2),.call (.glob 1852269562616411549542) [.loc 1802071652,.loc 119200062993523],.attr (.loc 119200062993523) b6]]))]
noncomputable def vh:List MS:=[.tr [.ret (some (.call (.glob 7165066974322454374) [.loc 1953654117,.loc 130160803538291,.loc 119200062993523]))] 5941776531947089012 [.any]]
noncomputable def zQ:List MS:=[.ifs (.cmp 5 (.call (.glob 7878074452061484852980316991076) [.loc 1953654117]) (.int 0)) [.ret (some (.call (.glob 2016787059727740122363008260011365) [.loc 1953654117,.loc 119200062993523]))] [],.ifs (.cmp 0 (.sub (.loc 1953654117) (.int 0)) (.str bX)) [.ifs (.cmp 9 (.sub (.loc 1953654117) (.int 1)) (.loc 130160803538291)) [.raise [110,111,32,99,111,110,115,116,97,110,116,32,111,102,32,116,104,105,115,32,110,97,109,101]] [],.ret (some (.sub (.loc 130160803538291) (.sub (.loc 1953654117) (.int 1))))] [],.ifs (.cmp 0 (.sub (.loc 1953654117) (.int 0)) (.str [117,110])) [.ret (some (.call (.glob 469569829229196437186414) [.sub (.loc 1953654117) (.int 1),.call (.glob 7165066974322454374) [.sub (.loc 1953654117) (.int 2),.loc 130160803538291,.loc 119200062993523],.loc 119200062993523]))] [],.ifs (.cmp 0 (.sub (.loc 1953654117) (.int 0)) (.str [98,105,110])) [.ret (some (.call (.glob 469569829229196386330994) [.sub (.loc 1953654117) (.int 1),.call (.glob 7165066974322454374) [.sub (.loc 1953654117) (.int 2),.loc 130160803538291,.loc 119200062993523],.call (.glob 7165066974322454374) [.sub (.loc 1953654117) (.int 3),.loc 130160803538291,.loc 119200062993523],.loc 119200062993523]))] [],.raise [110,111,32,99,111,110,115,116,97,110,116,32,101,120,112,114,101,115,115,105,111,110]]
noncomputable def Cw:List MS:=[.ret (some (.call (.glob 27988542917800564) [.sub (.loc 1953459300) (.int 1),.sub (.loc 1953459300) (.int 0),.loc 1802071652,.loc 119200062993523]))]
noncomputable def xu:List MS:=[.xg [1802071652,508440638821] (.call (.glob 479142750661331733345140) [.loc 1953654117,.loc 130160803538291,.loc 119200062993523]),.ifs (.cmp 1 (.loc 1802071652) (.glob 20633797146395986)) [.raise [110,111,32,73,78,84,69,71,69,82,32,99,111,110,115,116,97,110,116]] [],.ret (some (.loc 508440638821))]
noncomputable def sP:List MS:=[.asg 1953459300 (.call (.glob 479142750661331733345140) [.loc 1953654117,.loc 130160803538291,.loc 119200062993523]),.ifs (.or [.cmp 1 (.cmp 0 (.sub (.loc 1953459300) (.int 0)) (.glob 21479265820426572)) (.cmp 0 (.loc 1802071652) (.glob 21479265820426572)),.cmp 1 (.cmp 0 (.sub (.loc 1953459300) (.int 0)) (.glob 1241138386023012910418)) (.cmp 0 (.loc 1802071652) (.glob 1241138386023012910418))]) [.raise [97,32,99,111,110,115,116,97,110,116,32,111,102,32,97,110,111,116,104,101,114,32,115,111,114,116,32,116,104,97,110,32,105,116,115,32,110,97,109,101]] [],.ifs (.cmp 0 (.loc 1802071652) (.glob 1241138386023012910418)) [.ret (some (.ite (.cmp 6 (.loc 119182899770472) (.none)) (.sub (.loc 1953459300) (.int 1)) (.call (.glob 7364964) [.sub (.loc 1953459300) (.int 1),.loc 119182899770472])))] [],.tr [.ret (some (.call (.glob 27429926402092644) [.loc 1953459300,.loc 1802071652,.loc 119200062993523]))] 5941776531947089012 [.any]]
noncomputable def sQ:List MS:=[.asgA (.loc 1936026726) bX (.loc 1851878757),.asgA (.loc 1936026726) cu (.glob 1380270412),.asgA (.loc 1936026726) cN (.int 0),.asgA (.loc 1936026726) bL (.lst 0 []),.asgA (.loc 1936026726) bO (.str eo),.asgA (.loc 1936026726) b9 (.bool false),.asgA (.loc 1936026726) fO (.none),.asgA (.loc 1936026726) aJ (.none),.asgA (.loc 1936026726) cg (.bool false)]
noncomputable def nY:List MS:=[.asgA (.loc 1936026726) aX (.loc 7596851757370796404),.asgA (.loc 1936026726) cM (.loc 32635403070180027165612140899),.asgA (.loc 1936026726) gH (.loc 119200062993523),.asgA (.loc 1936026726) br (.dict 23 []),.asgA (.loc 1936026726) gF (.dict 24 []),.asgA (.loc 1936026726) bU (.dict 25 []),.asgA (.loc 1936026726) bw (.dict 26 []),.asgA (.loc 1936026726) aV (.dict 27 []),.asgA (.loc 1936026726) cj (.dict 28 []),.asgA (.loc 1936026726) gV (.lst 1 []),.asgA (.loc 1936026726) iI (.lst 1 []),.asgA (.loc 1936026726) iB (.lst 0 []),.asgA (.loc 1936026726) jo (.lst 1 [])]
noncomputable def M1:List MS:=[.ifs (.cmp 9 (.loc 1851878757) (.attr (.loc 499850046565) br)) [.asg 126965363404652 (.call (.glob 91780991315820) [.loc 1851878757]),.xg [1802071652,1953459300] (.mcall (.attr (.loc 499850046565) aX) [111,102] [.loc 1851878757]),.asgA (.loc 126965363404652) cu (.loc 1802071652),.asgA (.loc 126965363404652) cN (.call (.glob 1999557252955565420390) [.loc 499850046565,.loc 1802071652,.loc 1953459300]),.g7 (.attr (.loc 499850046565) br) (.loc 1851878757) (.loc 126965363404652)] [],.ret (some (.sub (.attr (.loc 499850046565) br) (.loc 1851878757)))]
noncomputable def sR:List MS:=[.ret (some (.call (.glob 1944867219061649339252) [.loc 1953654117,.attr (.loc 499850046565) cj,.attr (.loc 499850046565) gH]))]
noncomputable def xw:List MS:=[.ifs (.cmp 1 (.loc 1802071652) (.glob 1241138386023012910418)) [.ret (some (.int 0))] [],.ifs (.cmp 6 (.loc 119182899770472) (.none)) [.ret (some (.int 1))] [],.ifs (.cmp 0 (.loc 119182899770472) (.str [42])) [.ret (some (.none))] [],.asg 1953459300 (.call (.glob 144355354047705506072392564) [.loc 499850046565,.loc 119182899770472]),.ifs (.cmp 2 (.loc 1953459300) (.int 1)) [.raise [97,32,108,101,110,103,116,104,32,98,101,108,111,119,32,111,110,101]] [],.ret (some (.loc 1953459300))]
noncomputable def xx:List MS:=[.ifs (.cmp 8 (.loc 1851878757) (.attr (.loc 499850046565) gF)) [.raise [97,32,110,97,109,101,32,119,105,116,104,32,116,119,111,32,116,121,112,101,115]] [],.ifs (.cmp 8 (.loc 1851878757) (.attr (.loc 499850046565) cj)) [.raise [97,32,116,121,112,101,32,98,101,104,105,110,100,32,80,65,82,65,77,69,84,69,82]] [],.g7 (.attr (.loc 499850046565) gF) (.loc 1851878757) (.bool true),.asg 126965363404652 (.call (.glob 1852138852) [.loc 499850046565,.loc 1851878757]),.asgA (.loc 126965363404652) cu (.loc 1802071652),.asgA (.loc 126965363404652) cN (.call (.glob 1999557252955565420390) [.loc 499850046565,.loc 1802071652,.loc 119182899770472])]
noncomputable def xy:List MS:=[.asg 126965363404652 (.call (.glob 1852138852) [.loc 499850046565,.loc 1851878757]),.ifs (.cmp 0 (.loc 1684630899) (.lst 0 [])) [.ret none] [],.ifs (.cmp 1 (.attr (.loc 126965363404652) bO) (.str eo)) [.raise [100,105,109,101,110,115,105,111,110,115,32,111,102,32,119,104,97,116,32,104,97,115,32,115,111,109,101,44,32,111,114,32,99,97,110,32,104,97,118,101,32,110,111,110,101]] [],.ifs (.cmp 4 (.len (.loc 1684630899)) (.int 7)) [.raise [109,111,114,101,32,116,104,97,110,32,115,101,118,101,110,32,100,105,109,101,110,115,105,111,110,115]] [],.forR 482854658917 none (.bin 1 (.len (.loc 1684630899)) (.int 1)) [.ifs (.cmp 6 (.sub (.sub (.loc 1684630899) (.loc 482854658917)) (.int 1)) (.none)) [.raise [42,32,97,104,101,97,100,32,111,102,32,116,104,101,32,108,97,115,116,32,100,105,109,101,110,115,105,111,110]] []],.asgA (.loc 126965363404652) bL (.list (.loc 1684630899)),.asgA (.loc 126965363404652) bO (.str gG)]
noncomputable def pU:List MS:=[.asg 126965363404652 (.call (.glob 1852138852) [.loc 499850046565,.loc 1851878757]),.ifs (.or [.cmp 8 (.loc 1851878757) (.attr (.loc 499850046565) cj),.cmp 1 (.attr (.loc 126965363404652) bO) (.str eo),.cmp 7 (.attr (.loc 126965363404652) aJ) (.none)]) [.raise [97,32,99,111,110,115,116,97,110,116,39,115,32,110,97,109,101,32,105,115,32,97,110,111,116,104,101,114,32,116,104,105,110,103,32,116,111,111]] [],.asg 508440638821 (.call (.glob 133441927707620975322231668) [.loc 1953654117,.attr (.loc 126965363404652) cu,.attr (.loc 126965363404652) cN,.attr (.loc 499850046565) cj,.attr (.loc 499850046565) gH]),.ifs (.and [.cmp 0 (.attr (.loc 126965363404652) cu) (.glob 1241138386023012910418),.cmp 6 (.attr (.loc 126965363404652) cN) (.none)]) [.asgA (.loc 126965363404652) cN (.len (.loc 508440638821))] [],.asgA (.loc 126965363404652) fO (.tup [.attr (.loc 126965363404652) cu,.loc 508440638821]),.asgA (.loc 126965363404652) bO (.str aQ),.g7 (.attr (.loc 499850046565) cj) (.loc 1851878757) (.attr (.loc 126965363404652) fO)]
noncomputable def vm:List MS:=[.asg 474080961907 (.lst 1 []),.g8 [1851878757,1684630899,119182899770472] (.loc 452924370291) [.expr (.call (.glob 1907614012473699036531) [.loc 499850046565,.loc 1851878757,.loc 1684630899]),.asg 126965363404652 (.call (.glob 1852138852) [.loc 499850046565,.loc 1851878757]),.ifs (.or [.cmp 7 (.attr (.loc 126965363404652) aJ) (.none),.cmp 9 (.attr (.loc 126965363404652) bO) (.tup [.str eo,.str gG])]) [.raise [97,32,110,97,109,101,32,116,104,97,116,32,99,97,110,110,111,116,32,115,116,97,110,100,32,105,110,32,67,79,77,77,79,78]] [],.asgA (.loc 126965363404652) aJ (.loc 422726034283),.expr (.mcall (.loc 474080961907) aF [.loc 1851878757])],.expr (.mcall (.attr (.loc 499850046565) gV) aF [.tup [.loc 422726034283,.loc 474080961907]])]
noncomputable def qq:List MS:=[.gw 1851878757 (.loc 474080961907) [.asg 126965363404652 (.call (.glob 1852138852) [.loc 499850046565,.loc 1851878757]),.ifs (.or [.cmp 1 (.attr (.loc 126965363404652) bO) (.str eo),.cmp 7 (.attr (.loc 126965363404652) aJ) (.none)]) [.raise [69,88,84,69,82,78,65,76,32,110,97,109,101,115,32,97,110,111,116,104,101,114,32,116,104,105,110,103]] [],.asgA (.loc 126965363404652) bO (.str [112,114,111,99]),.g7 (.attr (.loc 499850046565) aV) (.loc 1851878757) (.bool true)]]
noncomputable def pW:List MS:=[.gw 1851878757 (.loc 474080961907) [.asg 126965363404652 (.call (.glob 1852138852) [.loc 499850046565,.loc 1851878757]),.ifs (.or [.cmp 1 (.attr (.loc 126965363404652) bO) (.str eo),.cmp 7 (.attr (.loc 126965363404652) aJ) (.none),.not (.mcall (.loc 499850046565) cM [.loc 1851878757])]) [.raise [73,78,84,82,73,78,83,73,67,32,110,97,109,101,115,32,110,111,32,115,117,99,104,32,102,117,110,99,116,105,111,110]] [],.asgA (.loc 126965363404652) bO (.str iH)]]
noncomputable def xA:List MS:=[.gw 1851878757 (.loc 474080961907) [.ifs (.and [.cmp 1 (.loc 1851878757) (.str []),.cmp 1 (.sub (.loc 1851878757) (.int 0)) (.str [47])]) [.asgA (.call (.glob 1852138852) [.loc 499850046565,.loc 1851878757]) cg (.bool true)] [],.expr (.mcall (.attr (.loc 499850046565) jo) aF [.loc 1851878757])]]
noncomputable def zR:List MS:=[.asg 2003792484 (.sub (.loc 1936745827) (.int 0)),.ifs (.cmp 0 (.loc 2003792484) (.str aX)) [.raise [73,77,80,76,73,67,73,84,32,98,101,104,105,110,100,32,111,116,104,101,114,32,115,112,101,99,105,102,105,99,97,116,105,111,110,115]] [],.ifs (.cmp 0 (.loc 2003792484) (.str dD)) [.g8 [1851878757,1684630899,119182899770472] (.sub (.loc 1936745827) (.int 3)) [.expr (.call (.glob 1907614012473816477284) [.loc 499850046565,.loc 1851878757,.sub (.loc 1936745827) (.int 1),.ite (.cmp 6 (.loc 119182899770472) (.none)) (.sub (.loc 1936745827) (.int 2)) (.loc 119182899770472)]),.expr (.call (.glob 1907614012473699036531) [.loc 499850046565,.loc 1851878757,.loc 1684630899])]] [.ifs (.cmp 0 (.loc 2003792484) (.str dX)) [.g8 [1851878757,1684630899,119182899770472] (.sub (.loc 1936745827) (.int 1)) [.expr (.call (.glob 1907614012473699036531) [.loc 499850046565,.loc 1851878757,.loc 1684630899])]] [.ifs (.cmp 0 (.loc 2003792484) (.str aJ)) [.expr (.call (.glob 459921455854583349604206) [.loc 499850046565,.sub (.loc 1936745827) (.int 1),.sub (.loc 1936745827) (.int 2)])] [.ifs (.cmp 0 (.loc 2003792484) (.str [101,113,117,105,118])) [.gw 444301538672 (.sub (.loc 1936745827) (.int 1)) [.expr (.mcall (.attr (.loc 499850046565) iI) aF [.any])]] [.ifs (.cmp 0 (.loc 2003792484) (.str aQ)) [.g8 [1851878757,1953654117] (.sub (.loc 1936745827) (.int 1)) [.expr (.call (.glob 7716201608145609707126982468978) [.loc 499850046565,.loc 1851878757,.loc 1953654117])]] [.ifs (.cmp 0 (.loc 2003792484) (.str aV)) [.expr (.call (.glob 30141412531032630524799508844) [.loc 499850046565,.sub (.loc 1936745827) (.int 1)])] [.ifs (.cmp 0 (.loc 2003792484) (.str aP)) [.expr (.call (.glob 7716201608017419828958130825571) [.loc 499850046565,.sub (.loc 1936745827) (.int 1)])] [.ifs (.cmp 0 (.loc 2003792484) (.str cW)) [.expr (.call (.glob 1796568187000451392883) [.loc 499850046565,.sub (.loc 1936745827) (.int 1)])] [.ifs (.cmp 0 (.loc 2003792484) (.str [100,97,116,97])) [.expr (.mcall (.attr (.loc 499850046565) iB) [101,120,116,101,110,100] [.sub (.loc 1936745827) (.int 1)])] []]]]]]]]]]
noncomputable def vn:List MS:=[.asg 126965363404652 (.call (.glob 1852138852) [.loc 499850046565,.loc 1851878757]),.ifs (.or [.cmp 1 (.attr (.loc 126965363404652) bO) (.str eo),.attr (.loc 126965363404652) b9,.cmp 7 (.attr (.loc 126965363404652) aJ) (.none)]) [.raise [97,32,115,116,97,116,101,109,101,110,116,32,102,117,110,99,116,105,111,110,39,115,32,110,97,109,101,32,105,115,32,97,110,111,116,104,101,114,32,116,104,105,110,103,32,116,111,111]] [],.forR 482854658917 none (.len (.loc 28276610518574451)) [.ifs (.cmp 8 (.sub (.loc 28276610518574451) (.loc 482854658917)) (.slice (.loc 28276610518574451) none (some (.loc 482854658917)))) [.raise [97,32,115,116,97,116,101,109,101,110,116,32,102,117,110,99,116,105,111,110,39,115,32,100,117,109,109,121,32,116,111,108,100,32,116,119,105,99,101]] [],.expr (.call (.glob 1852138852) [.loc 499850046565,.sub (.loc 28276610518574451) (.loc 482854658917)])],.asgA (.loc 126965363404652) bO (.str bf),.asgA (.loc 126965363404652) fO (.tup [.list (.loc 28276610518574451),.loc 1651467385])]
noncomputable def vo:List MS:=[.ifs (.isi (.loc 1953654117) 1) [.gw 2003792484 (.loc 1953654117) [.expr (.call (.glob 521516288922651466753395) [.loc 499850046565,.sub (.loc 1953654117) (.loc 2003792484)])]] [.ifs (.isi (.loc 1953654117) 2) [.gw 1885434484 (.loc 1953654117) [.expr (.call (.glob 521516288922651466753395) [.loc 499850046565,.loc 1885434484])]] [.ifs (.and [.isi (.loc 1953654117) 4,.cmp 4 (.len (.loc 1953654117)) (.int 0)]) [.expr (.call (.glob 521516288922677572299877) [.loc 499850046565,.loc 1953654117])] []]]]
noncomputable def vq:List MS:=[.asg 7627111 (.sub (.loc 1953654117) (.int 0)),.ifs (.or [.cmp 0 (.loc 7627111) (.str bX),.cmp 0 (.loc 7627111) (.str [97,103,111,116,111])]) [.expr (.call (.glob 1852138852) [.loc 499850046565,.sub (.loc 1953654117) (.int 1)])] [.ifs (.or [.cmp 0 (.loc 7627111) (.str [105,100,111]),.cmp 0 (.loc 7627111) (.str [115,101,116,108,97,98,101,108])]) [.expr (.call (.glob 1852138852) [.loc 499850046565,.sub (.loc 1953654117) (.int 2)])] [.ifs (.cmp 0 (.loc 7627111) (.str [114,101,102])) [.expr (.call (.glob 1852138852) [.loc 499850046565,.sub (.loc 1953654117) (.int 1)]),.g7 (.attr (.loc 499850046565) bU) (.sub (.loc 1953654117) (.int 1)) (.bool true)] [.ifs (.cmp 0 (.loc 7627111) (.str [99,97,108,108])) [.expr (.call (.glob 1852138852) [.loc 499850046565,.sub (.loc 1953654117) (.int 1)]),.g7 (.attr (.loc 499850046565) bw) (.sub (.loc 1953654117) (.int 1)) (.bool true)] []]]],.gw 1885434484 (.slice (.loc 1953654117) (some (.int 1)) none) [.ifs (.isi (.loc 1885434484) 7) [.expr (.call (.glob 521516288922651466753395) [.loc 499850046565,.loc 1885434484])] []]]
noncomputable def nZ:List MS:=[.asg 126965363404652 (.sub (.attr (.loc 499850046565) br) (.loc 1851878757)),.ifs (.cmp 8 (.attr (.loc 126965363404652) bO) (.tup [.str gG,.str bf,.str iH])) [.ret none] [],.ifs (.or [.cmp 0 (.attr (.loc 126965363404652) bO) (.str aQ),.cmp 7 (.attr (.loc 126965363404652) aJ) (.none),.cmp 8 (.loc 1851878757) (.attr (.loc 499850046565) bw)]) [.raise [97,32,110,97,109,101,32,116,104,97,116,32,105,115,32,110,111,32,102,117,110,99,116,105,111,110]] [],.ifs (.and [.cmp 9 (.loc 1851878757) (.attr (.loc 499850046565) aV),.not (.attr (.loc 126965363404652) b9),.mcall (.loc 499850046565) cM [.loc 1851878757]]) [.asgA (.loc 126965363404652) bO (.str iH)] [.asgA (.loc 126965363404652) bO (.str [102,117,110,99])]]
noncomputable def pX:List MS:=[.asg 126965363404652 (.sub (.attr (.loc 499850046565) br) (.loc 1851878757)),.ifs (.or [.cmp 9 (.attr (.loc 126965363404652) bO) (.tup [.str eo,.str [112,114,111,99]]),.cmp 7 (.attr (.loc 126965363404652) aJ) (.none),.cmp 8 (.loc 1851878757) (.attr (.loc 499850046565) gF)]) [.raise [97,32,110,97,109,101,32,116,104,97,116,32,105,115,32,110,111,32,115,117,98,114,111,117,116,105,110,101]] [],.asgA (.loc 126965363404652) bO (.str [115,117,98])]
noncomputable def qt:List MS:=[.forR 482854658917 none (.len (.loc 28276610518574451)) [.ifs (.cmp 0 (.sub (.loc 28276610518574451) (.loc 482854658917)) (.str [42])) [.cont] [],.ifs (.cmp 8 (.sub (.loc 28276610518574451) (.loc 482854658917)) (.slice (.loc 28276610518574451) none (some (.loc 482854658917)))) [.raise [97,32,100,117,109,109,121,32,116,111,108,100,32,116,119,105,99,101]] [],.asgA (.call (.glob 1852138852) [.loc 499850046565,.sub (.loc 28276610518574451) (.loc 482854658917)]) b9 (.bool true)]]
noncomputable def qu:List MS:=[.ifs (.and [.attr (.loc 126965363404652) cg,.or [.cmp 7 (.attr (.loc 126965363404652) aJ) (.none),.cmp 9 (.attr (.loc 126965363404652) bO) (.tup [.str eo,.str gG])]]) [.raise [83,65,86,69,32,111,102,32,119,104,97,116,32,105,115,32,110,111,116,32,107,101,112,116,32,115,111]] [],.ifs (.attr (.loc 126965363404652) b9) [.ifs (.or [.cmp 7 (.attr (.loc 126965363404652) aJ) (.none),.attr (.loc 126965363404652) cg,.cmp 8 (.attr (.loc 126965363404652) bO) (.tup [.str aQ,.str bf,.str iH])]) [.raise [97,32,100,117,109,109,121,32,116,104,97,116,32,105,115,32,97,110,111,116,104,101,114,32,116,104,105,110,103,32,116,111,111]] [],.ret none] [],.ifs (.and [.cmp 1 (.attr (.loc 126965363404652) bL) (.lst 0 []),.cmp 6 (.sub (.sub (.attr (.loc 126965363404652) bL) (.bin 1 (.len (.attr (.loc 126965363404652) bL)) (.int 1))) (.int 1)) (.none)]) [.raise [97,110,32,97,115,115,117,109,101,100,32,115,105,122,101,32,119,105,116,104,111,117,116,32,97,32,100,117,109,109,121]] [],.ifs (.and [.cmp 6 (.attr (.loc 126965363404652) cN) (.none),.cmp 8 (.attr (.loc 126965363404652) bO) (.tup [.str eo,.str gG])]) [.raise [97,110,32,97,115,115,117,109,101,100,32,108,101,110,103,116,104,32,119,105,116,104,111,117,116,32,97,32,100,117,109,109,121]] []]
noncomputable def vt:List MS:=[.gw 1851878757 (.list (.attr (.loc 499850046565) br)) [.g8 [7106423,1751738216] (.attr (.sub (.attr (.loc 499850046565) br) (.loc 1851878757)) bL) [.expr (.call (.glob 521516288922651466753395) [.loc 499850046565,.lst 0 [.loc 7106423,.loc 1751738216]])]],.g8 [32758241287304307,130160803538291] (.attr (.loc 499850046565) iB) [.expr (.call (.glob 521516288922651466753395) [.loc 499850046565,.loc 32758241287304307])]]
noncomputable def xB:List MS:=[.asg 427071729268 (.int 0),.whl (.and [.cmp 2 (.loc 427071729268) (.len (.loc 495806931827)),.cmp 8 (.sub (.sub (.sub (.loc 495806931827) (.loc 427071729268)) (.int 1)) (.int 0)) (.tup [.str aX,.str aQ])]) [.asg 1936745827 (.sub (.sub (.loc 495806931827) (.loc 427071729268)) (.int 1)),.ifs (.cmp 0 (.sub (.loc 1936745827) (.int 0)) (.str aX)) [.expr (.mcall (.attr (.loc 499850046565) aX) [97,100,100] [.sub (.loc 1936745827) (.int 1)])] [.g8 [1851878757,1953654117] (.sub (.loc 1936745827) (.int 1)) [.expr (.call (.glob 7716201608145609707126982468978) [.loc 499850046565,.loc 1851878757,.loc 1953654117])]],.aug 427071729268 0 (.int 1)],.ret (some (.loc 427071729268))]
noncomputable def vB:List MS:=[.asg 32199693910701171 (.lst 0 []),.ifs (.cmp 0 (.attr (.loc 7496055) cu) (.str cX)) [.asg 32199693910701171 (.bin 0 (.lst 0 [.attr (.loc 7496055) bX]) (.list (.attr (.loc 7496055) eF))),.ifs (.cmp 7 (.attr (.loc 7496055) aW) (.none)) [.expr (.call (.glob 1907614012473816477284) [.loc 499850046565,.attr (.loc 7496055) bX,.sub (.attr (.loc 7496055) aW) (.int 0),.sub (.attr (.loc 7496055) aW) (.int 1)])] []] [],.gw 1851878757 (.loc 32199693910701171) [.expr (.call (.glob 1852138852) [.loc 499850046565,.loc 1851878757])],.expr (.call (.glob 33851672205483642591545746803) [.loc 499850046565,.attr (.loc 7496055) dH]),.gw 1851878757 (.attr (.loc 7496055) eF) [.expr (.call (.glob 33851672205483642591545746803) [.loc 499850046565,.sub (.sub (.attr (.loc 7496055) eF) (.loc 1851878757)) (.int 1)])],.gw 1851878757 (.loc 32199693910701171) [.ifs (.attr (.sub (.attr (.loc 499850046565) br) (.loc 1851878757)) b9) [.raise [97,32,102,117,110,99,116,105,111,110,39,115,32,114,101,115,117,108,116,32,116,104,97,116,32,105,115,32,97,32,100,117,109,109,121]] []],.ret (some (.loc 32199693910701171))]
noncomputable def sS:List MS:=[.gw 1851878757 (.attr (.loc 499850046565) bw) [.expr (.call (.glob 9142637460321495011413199709540) [.loc 499850046565,.loc 1851878757])],.gw 1851878757 (.attr (.loc 499850046565) bU) [.ifs (.cmp 8 (.loc 1851878757) (.loc 32199693910701171)) [.raise [97,32,102,117,110,99,116,105,111,110,32,116,104,97,116,32,97,115,107,115,32,105,116,115,101,108,102]] [],.expr (.call (.glob 2340515189842302722375339026769252) [.loc 499850046565,.loc 1851878757])],.gw 1851878757 (.attr (.loc 499850046565) br) [.ifs (.cmp 8 (.loc 1851878757) (.loc 32199693910701171)) [.asg 126965363404652 (.sub (.attr (.loc 499850046565) br) (.loc 1851878757)),.ifs (.or [.cmp 1 (.attr (.loc 126965363404652) bO) (.str eo),.cmp 7 (.attr (.loc 126965363404652) aJ) (.none),.attr (.loc 126965363404652) cg]) [.raise [97,32,102,117,110,99,116,105,111,110,39,115,32,114,101,115,117,108,116,32,116,104,97,116,32,105,115,32,97,110,111,116,104,101,114,32,116,104,105,110,103,32,116,111,111]] []] [.expr (.call (.glob 30765223050532546019544166252) [.loc 499850046565,.sub (.attr (.loc 499850046565) br) (.loc 1851878757)])]]]
noncomputable def EP:List MS:=[.asg 499850046565 (.call (.glob 1445866416556570995813) [.call (.glob 5291008748157102452) [],.loc 32635403070180027165612140899,.loc 119200062993523]),.asg 427071729268 (.call (.glob 1796568186944750777204) [.loc 499850046565,.attr (.loc 7496055) cQ]),.asg 32199693910701171 (.call (.glob 516535525596385968743539) [.loc 499850046565,.loc 7496055]),.g8 [1818848869,1936745827] (.slice (.attr (.loc 7496055) cQ) (some (.loc 427071729268)) none) [.expr (.call (.glob 7017844480471491939) [.loc 499850046565,.loc 1936745827])],.g8 [1818848869,1851878757,28276610518574451,1651467385] (.attr (.loc 7496055) dI) [.expr (.call (.glob 459921455872196893568611) [.loc 499850046565,.loc 1851878757,.loc 28276610518574451,.loc 1651467385]),.expr (.call (.glob 521516288922651466753395) [.loc 499850046565,.loc 1651467385])],.g8 [465490306412,1937010036,1818848869] (.attr (.loc 7496055) fh) [.expr (.call (.glob 521516288922651466753395) [.loc 499850046565,.loc 1937010036])],.expr (.call (.glob 521516288922673192723315) [.loc 499850046565]),.expr (.call (.glob 139505576481956406116967795) [.loc 499850046565,.loc 32199693910701171]),.ret (some (.loc 499850046565))]
noncomputable def pY:List MS:=[.ret (some (.attr (.call (.glob 113668262487410) [.loc 7496055,.loc 32635403070180027165612140899,.loc 119200062993523]) br))]
noncomputable def sU:List MS:=[.asgA (.loc 1936026726) iA (.loc 512869299304),.asgA (.loc 1936026726) dP (.loc 138296299594083392662631539),.asgA (.loc 1936026726) dF (.loc 7957310996628966322306636412019),.asgA (.loc 1936026726) b6 (.loc 36034982570051737832070147700),.asgA (.loc 1936026726) kZ (.loc 495874044019),.asgA (.loc 1936026726) eN (.loc 7878074456581875849285927399027),.asgA (.loc 1936026726) iZ (.loc 27988534311612019),.asgA (.loc 1936026726) k9 (.loc 431198598248)]
noncomputable def qw:List MS:=[.asgA (.loc 1936026726) cu (.loc 1802071652),.asgA (.loc 1936026726) bX (.loc 1851878757),.asgA (.loc 1936026726) dH (.loc 28276610518574451),.asgA (.loc 1936026726) aW (.loc 125780054338676),.asgA (.loc 1936026726) cQ (.lst 4 []),.asgA (.loc 1936026726) dI (.lst 5 []),.asgA (.loc 1936026726) fh (.lst 6 []),.asgA (.loc 1936026726) i6 (.dict 0 []),.asgA (.loc 1936026726) jJ (.dict 0 []),.asgA (.loc 1936026726) eF (.dict 0 [])]
noncomputable def zS:List MS:=[.ret (some (.lst 0 [.int 1,.int 2,.int 0,.int 1,.int 0,.int 2,.int 3,.int 2,.int 1,.int 1,.int 5,.int 3,.int 1,.int 2,.int 0,.int 1,.int 3]))]
noncomputable def lZ:List MS:=[.asg 24948 (.sub (.loc 7365998) (.int 1)),.g7 (.loc 7365998) (.int 1) (.bin 0 (.loc 24948) (.int 1)),.ret (some (.bin 4 (.bin 0 (.sub (.sub (.loc 7365998) (.int 0)) (.bin 4 (.loc 24948) (.len (.sub (.loc 7365998) (.int 0))))) (.bin 2 (.int 5) (.bin 3 (.loc 24948) (.len (.sub (.loc 7365998) (.int 0)))))) (.loc 1835101817)))]
noncomputable def l7:List MS:=[.ret (some (.cmp 8 (.loc 1851878757) (.tup [.str [83,73,78],.str [66]])))]
noncomputable def zT:List MS:=[.ret (some (.sub (.lst 0 [.lst 0 [],.lst 0 [],.lst 0 [.tup [.none,.tup [.str cz,.int 4]]],.lst 0 [.tup [.tup [.str cz,.int 0],.tup [.str cz,.int 2]],.tup [.none,.none]]]) (.call (.glob 1760250341482835370359) [.loc 7365998,.int 4])))]
noncomputable def UN:List MS:=[.asg 7823737 (.call (.glob 1760250341482835370359) [.loc 7365998,.int 7]),.asg 1851878757 (.sub (.glob 450624087419648520054131) (.call (.glob 1760250341482835370359) [.loc 7365998,.int 6])),.ifs (.cmp 0 (.loc 7823737) (.int 0)) [.asg 1802071652 (.call (.glob 1760250341482835370359) [.loc 7365998,.int 6]),.ret (some (.tup [.str dD,.loc 1802071652,.ite (.cmp 0 (.loc 1802071652) (.int 5)) (.sub (.tup [.none,.tup [.str cz,.int 2],.str [42]]) (.call (.glob 1760250341482835370359) [.loc 7365998,.int 3])) (.none),.lst 0 [.tup [.loc 1851878757,.call (.glob 1760250341482834783603) [.loc 7365998],.none]]]))] [],.ifs (.cmp 0 (.loc 7823737) (.int 1)) [.ret (some (.tup [.str dX,.lst 0 [.tup [.loc 1851878757,.lst 0 [.tup [.none,.tup [.str cz,.int 3]]],.none]]]))] [],.ifs (.cmp 0 (.loc 7823737) (.int 2)) [.ret (some (.tup [.str aJ,.sub (.tup [.str [],.str [66,76,75]]) (.call (.glob 1760250341482835370359) [.loc 7365998,.int 2]),.lst 0 [.tup [.loc 1851878757,.call (.glob 1760250341482834783603) [.loc 7365998],.none]]]))] [],.ifs (.cmp 0 (.loc 7823737) (.int 5)) [.ret (some (.tup [.str aQ,.lst 0 [.tup [.loc 1851878757,.tup [.str cz,.int 7]]]]))] [],.ret (some (.tup [.sub (.tup [.str aV,.str aP,.str [],.str cW]) (.bin 1 (.loc 7823737) (.int 3)),.lst 0 [.loc 1851878757]]))]
noncomputable def UO:List MS:=[.asg 7823737 (.call (.glob 1760250341482835370359) [.loc 7365998,.int 4]),.asg 1851878757 (.sub (.glob 450624087419648520054131) (.call (.glob 1760250341482835370359) [.loc 7365998,.int 6])),.ifs (.cmp 0 (.loc 7823737) (.int 0)) [.ret (some (.tup [.str [97,115,115,105,103,110],.tup [.str bX,.str [65]],.tup [.str [114,101,102],.loc 1851878757,.lst 0 [.tup [.str cz,.int 1]]]]))] [],.ifs (.cmp 0 (.loc 7823737) (.int 1)) [.ret (some (.tup [.str [108,105,102],.tup [.str [98,105,110],.str [46,76,84,46],.tup [.str bX,.loc 1851878757],.tup [.str cz,.int 1]],.tup [.str [99,97,108,108],.str [74],.lst 0 [.tup [.str bX,.str [73]]]]]))] [],.ifs (.cmp 0 (.loc 7823737) (.int 2)) [.ret (some (.tup [.str [99,97,108,108],.loc 1851878757,.lst 0 []]))] [],.ret (some (.tup [.str [114,101,97,100],.dict 0 [([85,78,73,84],.str [42]),([70,77,84],.str [42])],.lst 0 [.tup [.str [105,100,111],.lst 0 [.tup [.str [114,101,102],.loc 1851878757,.lst 0 [.tup [.str bX,.str [73]]]]],.str [73],.tup [.str cz,.int 1],.tup [.str cz,.int 2],.none]]]))]
noncomputable def oh:List MS:=[.ifs (.cmp 0 (.sub (.loc 1937010036) (.int 0)) (.str [97,115,115,105,103,110])) [.expr (.mcall (.sub (.loc 439720572019) (.sub (.sub (.loc 1937010036) (.int 2)) (.int 1))) aF [.str bU]),.expr (.mcall (.sub (.loc 439720572019) (.str [65])) aF [.str iY])] [.ifs (.cmp 0 (.sub (.loc 1937010036) (.int 0)) (.str [108,105,102])) [.expr (.mcall (.sub (.loc 439720572019) (.sub (.sub (.sub (.loc 1937010036) (.int 1)) (.int 2)) (.int 1))) aF [.str iY]),.expr (.mcall (.sub (.loc 439720572019) (.str [74])) aF [.str bw]),.expr (.mcall (.sub (.loc 439720572019) (.str [73])) aF [.str iY])] [.ifs (.cmp 0 (.sub (.loc 1937010036) (.int 0)) (.str [99,97,108,108])) [.expr (.mcall (.sub (.loc 439720572019) (.sub (.loc 1937010036) (.int 1))) aF [.str bw])] [.expr (.mcall (.sub (.loc 439720572019) (.sub (.sub (.sub (.sub (.sub (.loc 1937010036) (.int 2)) (.int 0)) (.int 1)) (.int 0)) (.int 1))) aF [.str bU]),.expr (.mcall (.sub (.loc 439720572019) (.str [73])) aF [.str iY])]]]]
noncomputable def oq:List MS:=[.asg 2003792484 (.sub (.loc 1936745827) (.int 0)),.gw 1769235821 (.ite (.cmp 0 (.loc 2003792484) (.str dD)) (.sub (.loc 1936745827) (.int 3)) (.ite (.cmp 0 (.loc 2003792484) (.str aJ)) (.sub (.loc 1936745827) (.int 2)) (.sub (.loc 1936745827) (.int 1)))) [.asg 1851878757 (.ite (.cmp 8 (.loc 2003792484) (.tup [.str aV,.str aP,.str cW])) (.loc 1769235821) (.sub (.loc 1769235821) (.int 0))),.expr (.mcall (.sub (.loc 439720572019) (.loc 1851878757)) aF [.mcall (.dict 0 [(dX,.str bL)]) dJ [.loc 2003792484,.loc 2003792484]]),.ifs (.cmp 0 (.loc 2003792484) (.str dD)) [.g7 (.loc 1953459300) (.loc 1851878757) (.tup [.sub (.loc 1936745827) (.int 1),.sub (.loc 1936745827) (.int 2)])] [],.ifs (.and [.cmp 8 (.loc 2003792484) (.tup [.str dD,.str aJ,.str dX]),.cmp 1 (.sub (.loc 1769235821) (.int 1)) (.lst 0 [])]) [.g7 (.loc 1953459300) (.bin 0 (.loc 1851878757) (.str [40,41])) (.sub (.loc 1769235821) (.int 1)),.ifs (.cmp 1 (.loc 2003792484) (.str dX)) [.expr (.mcall (.sub (.loc 439720572019) (.loc 1851878757)) aF [.str bL])] []] [],.ifs (.cmp 0 (.loc 2003792484) (.str aJ)) [.g7 (.loc 1953459300) (.bin 0 (.loc 1851878757) (.str [47])) (.sub (.loc 1936745827) (.int 1))] []]]
noncomputable def xC:List MS:=[.forR 482854658917 none (.len (.loc 6840676)) [.gw 478694368626 (.slice (.loc 6840676) none (some (.loc 482854658917))) [.ifs (.and [.cmp 0 (.loc 478694368626) (.sub (.loc 6840676) (.loc 482854658917)),.cmp 8 (.loc 478694368626) (.glob 1760250341483019658085)]) [.ret (some (.bool true))] [],.ifs (.or [.cmp 8 (.tup [.loc 478694368626,.sub (.loc 6840676) (.loc 482854658917)]) (.glob 115359766379416827079058788),.cmp 8 (.tup [.sub (.loc 6840676) (.loc 482854658917),.loc 478694368626]) (.glob 115359766379416827079058788)]) [.ret (some (.bool true))] []]],.ifs (.and [.cmp 8 (.str aQ) (.loc 6840676),.cmp 8 (.str dD) (.slice (.loc 6840676) (some (.mcall (.loc 6840676) iz [.str aQ])) none)]) [.ret (some (.bool true))] [],.ifs (.and [.not (.loc 7598521881375632761),.cmp 1 (.loc 1684630899) (.lst 0 []),.cmp 6 (.sub (.sub (.loc 1684630899) (.neg (.int 1))) (.int 1)) (.none)]) [.ret (some (.bool true))] [],.ret (some (.and [.not (.loc 7598521881375632761),.cmp 0 (.loc 119182899770472) (.str [42]),.not (.filt 1717658484 (.loc 6840676) [aQ,bf,aV,aP,cR,bw,aW])]))]
noncomputable def Cy:List MS:=[.g8 [1717658484,7697253] (.tup [.tup [.str bL,.str gG],.tup [.str aQ,.str aQ],.tup [.str bf,.str bf],.tup [.str aP,.str iH],.tup [.str bw,.str [115,117,98]]]) [.ifs (.cmp 8 (.loc 1717658484) (.loc 6840676)) [.ret (some (.loc 7697253))] []],.ifs (.cmp 8 (.str cR) (.loc 6840676)) [.ret (some (.ite (.and [.call (.glob 32470887554995256498048238874947382110563) [.loc 1851878757],.cmp 9 (.str aV) (.loc 6840676),.cmp 9 (.str cS) (.loc 6840676)]) (.str iH) (.str [102,117,110,99])))] [],.ret (some (.ite (.cmp 8 (.str aV) (.loc 6840676)) (.str [112,114,111,99]) (.str eo)))]
noncomputable def Cz:List MS:=[.xg [1802071652,1936292453] (.mcall (.loc 1953459300) dJ [.loc 1851878757,.mcall (.loc 119183001281906) dJ [.sub (.loc 1851878757) (.int 0),.tup [.ite (.Bc 3 3 (.str [73]) (.sub (.loc 1851878757) (.int 0)) (.str [78])) (.int 0) (.int 1),.none]]]),.asg 119182899770472 (.int 0),.ifs (.cmp 0 (.loc 1802071652) (.int 5)) [.asg 119182899770472 (.ite (.cmp 6 (.loc 1936292453) (.none)) (.int 1) (.ite (.cmp 0 (.loc 1936292453) (.str [42])) (.none) (.sub (.loc 1936292453) (.int 1))))] [],.asg 7697253 (.call (.glob 6875977896418440037) [.loc 1851878757,.loc 6840676]),.asg 508440638821 (.none),.ifs (.cmp 0 (.loc 7697253) (.str aQ)) [.asg 508440638821 (.tup [.loc 1802071652,.ite (.cmp 2 (.loc 1802071652) (.int 4)) (.sub (.tup [.int 7,.tup [.int 7,.int 0],.tup [.int 7,.int 0],.tup [.tup [.int 7,.int 0],.tup [.int 0,.int 0]]]) (.loc 1802071652)) (.none)])] [],.ret (some (.lst 0 [.loc 1802071652,.loc 119182899770472,.mcall (.loc 1953459300) dJ [.bin 0 (.loc 1851878757) (.str [40,41]),.lst 0 []],.loc 7697253,.cmp 8 (.str cS) (.loc 6840676),.loc 508440638821,.mcall (.loc 1953459300) dJ [.bin 0 (.loc 1851878757) (.str [47])],.cmp 8 (.str cW) (.loc 6840676)]))]
noncomputable def cT:List MS:=[.asg 1802071652 (.sub (.tup [.str i7,.str [115,117,98,114,111,117,116,105,110,101],.str cX]) (.call (.glob 1760250341482835370359) [.loc 7365998,.int 3])),.asg 7496055 (.call (.glob 23188113252575604) [.loc 1802071652,.ite (.cmp 0 (.loc 1802071652) (.str cX)) (.str [66]) (.str [80]),.lst 0 [],.none]),.ifs (.cmp 1 (.loc 1802071652) (.str i7)) [.asgA (.loc 7496055) dH (.sub (.lst 0 [.lst 0 [.str [67]],.lst 0 [.str [73],.str [67]],.lst 0 [.str [83,73,78]],.lst 0 [.str [66]]]) (.call (.glob 1760250341482835370359) [.loc 7365998,.int 4]))] [],.ifs (.and [.cmp 0 (.loc 1802071652) (.str cX),.cmp 0 (.call (.glob 1760250341482835370359) [.loc 7365998,.int 2]) (.int 0)]) [.asgA (.loc 7496055) aW (.tup [.call (.glob 1760250341482835370359) [.loc 7365998,.int 4],.none])] [],.ifs (.cmp 0 (.call (.glob 1760250341482835370359) [.loc 7365998,.int 3]) (.int 0)) [.expr (.mcall (.attr (.loc 7496055) cQ) aF [.tup [.int 1,.tup [.str aX,.lst 0 [.tup [.int 5,.tup [.str cz,.int 3],.lst 0 [.tup [.str [67],.str [67]]]]]]]])] [],.forR 1953854062 none (.bin 0 (.int 1) (.call (.glob 1760250341482835370359) [.loc 7365998,.int 7])) [.expr (.mcall (.attr (.loc 7496055) cQ) aF [.tup [.bin 0 (.loc 1953854062) (.int 2),.call (.glob 1760250341483086898531) [.loc 7365998]]])],.ifs (.cmp 0 (.call (.glob 1760250341482835370359) [.loc 7365998,.int 3]) (.int 0)) [.expr (.mcall (.attr (.loc 7496055) dI) aF [.tup [.int 20,.sub (.glob 450624087419648520054131) (.call (.glob 1760250341482835370359) [.loc 7365998,.int 6]),.lst 0 [.str [74]],.tup [.str [98,105,110],.str [43],.tup [.str bX,.str [74]],.tup [.str cz,.int 1]]]])] [],.forR 1953854062 none (.call (.glob 1760250341482835370359) [.loc 7365998,.int 4]) [.expr (.mcall (.attr (.loc 7496055) fh) aF [.tup [.int 0,.call (.glob 1760250341483087162740) [.loc 7365998],.bin 0 (.loc 1953854062) (.int 30)]])],.ret (some (.loc 7496055))]
noncomputable def TJ:List MS:=[.asg 115 (.slice (.loc 126870958469236) none (some (.int 40))),.asg 7496055 (.call (.glob 6875977896418238839) [.lst 2 [.bin 0 (.loc 115) (.slice (.call (.glob 1760250341483069404020) []) (some (.len (.loc 115))) none),.int 0]]),.asg 439720572019 (.facts),.asg 1953459300 (.dict 14 []),.asg 119183001281906 (.dict 15 []),.ifs (.cmp 0 (.attr (.loc 7496055) cu) (.str cX)) [.expr (.mcall (.sub (.loc 439720572019) (.str [66])) aF [.str aW]),.ifs (.cmp 7 (.attr (.loc 7496055) aW) (.none)) [.expr (.mcall (.sub (.loc 439720572019) (.str [66])) aF [.str dD]),.g7 (.loc 1953459300) (.str [66]) (.attr (.loc 7496055) aW)] []] [],.gw 1851878757 (.attr (.loc 7496055) dH) [.expr (.mcall (.sub (.loc 439720572019) (.loc 1851878757)) aF [.str cS])],.g8 [1818848869,1936745827] (.attr (.loc 7496055) cQ) [.ifs (.cmp 0 (.sub (.loc 1936745827) (.int 0)) (.str aX)) [.g7 (.loc 119183001281906) (.str [67]) (.tup [.int 5,.tup [.str cz,.int 3]])] [.expr (.call (.glob 495466423873876155847037156543657075) [.loc 1936745827,.loc 439720572019,.loc 1953459300])]],.g8 [1818848869,1851878757,28276610518574451,1651467385] (.attr (.loc 7496055) dI) [.expr (.mcall (.sub (.loc 439720572019) (.loc 1851878757)) aF [.str bf]),.expr (.mcall (.sub (.loc 439720572019) (.str [74])) aF [.str iY])],.g8 [465490306412,1937010036,1818848869] (.attr (.loc 7496055) fh) [.expr (.call (.glob 495466423873876230215259278289368179) [.loc 1937010036,.loc 439720572019])],.asg 2002873972 (.dict 16 []),.asg 29681726149062500 (.bool true),.gw 1851878757 (.glob 450624087419648520054131) [.asg 6840676 (.sub (.loc 439720572019) (.loc 1851878757)),.ifs (.and [.cmp 8 (.str bU) (.loc 6840676),.not (.filt 1717658484 (.loc 6840676) [bL,bf,aP])]) [.expr (.mcall (.loc 6840676) aF [.str cR])] [],.asg 7499639 (.call (.glob 6875977896418242423) [.loc 1851878757,.loc 6840676,.loc 1953459300,.loc 119183001281906]),.asg 1936292453 (.sub (.mcall (.loc 1953459300) dJ [.loc 1851878757,.mcall (.loc 119183001281906) dJ [.sub (.loc 1851878757) (.int 0),.tup [.int 0,.none]]]) (.int 1)),.ifs (.or [.call (.glob 450624087419601459180392) [.loc 6840676,.sub (.loc 7499639) (.int 2),.loc 1936292453,.sub (.loc 7499639) (.int 4)],.and [.cmp 0 (.sub (.loc 7499639) (.int 3)) (.str aQ),.cmp 4 (.sub (.loc 7499639) (.int 0)) (.int 3)]]) [.asg 29681726149062500 (.bool false)] [],.ifs (.and [.cmp 8 (.str aP) (.loc 6840676),.not (.call (.glob 32470887554995256498048238874947382110563) [.loc 1851878757])]) [.asg 29681726149062500 (.bool false)] [],.ifs (.cmp 1 (.loc 6840676) (.lst 0 [])) [.g7 (.loc 2002873972) (.loc 1851878757) (.loc 7499639)] []],.tr [.asg 32503133031591027 (.call (.glob 7800697121625194525130723650675) [.loc 7496055,.glob 32470887554995256498048238874947382110563,.call (.glob 84015690904691) []])] 318324321536902574730356 [.ret (some (.not (.loc 29681726149062500)))],.asg 439956631140 (.dict 17 []),.gw 1851878757 (.loc 32503133031591027) [.asg 7302757 (.sub (.loc 32503133031591027) (.loc 1851878757)),.asg 508440638821 (.ite (.cmp 0 (.attr (.loc 7302757) bO) (.str aQ)) (.attr (.loc 7302757) fO) (.none)),.g7 (.loc 439956631140) (.loc 1851878757) (.lst 0 [.attr (.loc 7302757) cu,.attr (.loc 7302757) cN,.attr (.loc 7302757) bL,.attr (.loc 7302757) bO,.attr (.loc 7302757) b9,.loc 508440638821,.attr (.loc 7302757) aJ,.attr (.loc 7302757) cg])],.ret (some (.and [.loc 29681726149062500,.cmp 0 (.loc 439956631140) (.loc 2002873972)]))]
noncomputable def jr:List (Nat×Fn):=[(86,⟨[1936026726],[],pR⟩),
 (93,⟨[1936026726,491596309875],[],ql⟩),
 (100,⟨[1936026726,1851878757],[],sM⟩),
 (114,⟨[7596851757370796404,1920298085,7106423,1751738216],[],qm⟩),
 (121,⟨[110,512869299304],[],Ct⟩),
 (205,⟨[1952807028,119182899770472],[],OY⟩),
 (213,⟨[110],[],qo⟩),
 (220,⟨[109,101],[],sN⟩),
 (227,⟨[109,101,110403869308019],[],qp⟩),
 (234,⟨[109,101,110403869308019,7630704],[],vg⟩),
 (304,⟨[110,110403869308019,7630704],[],sO⟩),
 (332,⟨[1802071652,119200062993523],[],xr⟩),
 (454,⟨[508440638821,28518,29807,119200062993523],[],Cu⟩),
 (461,⟨[508440638821,28518,29807,119200062993523],[],Cv⟩),
 (471,⟨[1953654117],[],pS⟩),
 (485,⟨[1953654117,119200062993523],[],nX⟩),
 (492,⟨[1953654117,130160803538291,119200062993523],[],vh⟩),
 (499,⟨[1953654117,130160803538291,119200062993523],[],zQ⟩),
 (520,⟨[1953459300,1802071652,119200062993523],[],Cw⟩),
 (534,⟨[1953654117,130160803538291,119200062993523],[],xu⟩),
 (541,⟨[1953654117,1802071652,119182899770472,130160803538291,119200062993523],[],sP⟩),
 (555,⟨[1936026726,1851878757],[],sQ⟩),
 (576,⟨[1936026726,7596851757370796404,32635403070180027165612140899,119200062993523],[],nY⟩),
 (590,⟨[499850046565,1851878757],[],M1⟩),
 (597,⟨[499850046565,1953654117],[],sR⟩),
 (604,⟨[499850046565,1802071652,119182899770472],[],xw⟩),
 (611,⟨[499850046565,1851878757,1802071652,119182899770472],[],xx⟩),
 (618,⟨[499850046565,1851878757,1684630899],[],xy⟩),
 (625,⟨[499850046565,1851878757,1953654117],[],pU⟩),
 (632,⟨[499850046565,422726034283,452924370291],[],vm⟩),
 (644,⟨[499850046565,474080961907],[],qq⟩),
 (651,⟨[499850046565,474080961907],[],pW⟩),
 (658,⟨[499850046565,474080961907],[],xA⟩),
 (663,⟨[499850046565,1936745827],[],zR⟩),
 (670,⟨[499850046565,1851878757,28276610518574451,1651467385],[],vn⟩),
 (677,⟨[499850046565,1953654117],[],vo⟩),
 (684,⟨[499850046565,1953654117],[],vq⟩),
 (691,⟨[499850046565,1851878757],[],nZ⟩),
 (698,⟨[499850046565,1851878757],[],pX⟩),
 (705,⟨[499850046565,28276610518574451],[],qt⟩),
 (712,⟨[499850046565,126965363404652],[],qu⟩),
 (719,⟨[499850046565],[],vt⟩),
 (726,⟨[499850046565,495806931827],[],xB⟩),
 (733,⟨[499850046565,7496055],[],vB⟩),
 (740,⟨[499850046565,32199693910701171],[],sS⟩),
 (747,⟨[7496055,32635403070180027165612140899,119200062993523],[],EP⟩),
 (754,⟨[7496055,32635403070180027165612140899,119200062993523],[],pY⟩),
 (769,⟨[1936026726,512869299304,138296299594083392662631539,7957310996628966322306636412019,36034982570051737832070147700,495874044019,7878074456581875849285927399027,27988534311612019,431198598248],[.int 32,.int 7,.int 15,.int 38,.int 1000000,.int 19,.int 72,.int 40],sU⟩),
 (790,⟨[1936026726,1802071652,1851878757,28276610518574451,125780054338676],[],qw⟩),
 (804,⟨[],[],zS⟩),
 (861,⟨[7365998,1835101817],[],lZ⟩),
 (868,⟨[1851878757],[],l7⟩),
 (875,⟨[7365998],[],zT⟩),
 (882,⟨[7365998],[],UN⟩),
 (889,⟨[7365998],[],UO⟩),
 (896,⟨[1937010036,439720572019],[],oh⟩),
 (903,⟨[1936745827,439720572019,1953459300],[],oq⟩),
 (908,⟨[6840676,1684630899,119182899770472,7598521881375632761],[],xC⟩),
 (915,⟨[1851878757,6840676],[],Cy⟩),
 (922,⟨[1851878757,6840676,1953459300,119183001281906],[],Cz⟩),
 (929,⟨[7365998],[],cT⟩)]
noncomputable def I9:List (Nat×EM):=[(103,⟨86,[([97,100,100],93),([111,102],100)]⟩),
 (558,⟨555,[]⟩),
 (579,⟨576,[]⟩),
 (772,⟨769,[]⟩),
 (793,⟨790,[]⟩)]
noncomputable def zU:List (Nat×V):=[(20633797146395986,.int 0),
 (1380270412,.int 1),
 (75107523513413,.int 2),
 (18946016917865816,.int 3),
 (21479265820426572,.int 4),
 (1241138386023012910418,.int 5),
 (21468326723408467,.str jq),
 (5291008748157102452,.fn 103),
 (36022874661761597682965901939,.fn 114),
 (28826396162354804,.fn 121),
 (7364964,.fn 205),
 (86102640117844,.tup [.int 0,.int 0]),
 (30773761292696260933742851187,.fn 213),
 (139576374294197187491557235,.fn 220),
 (35416036438863515460007720051,.fn 227),
 (540405829450432294248812,.fn 234),
 (138296299594095474271415924,.fn 304),
 (138296299594101010484260468,.fn 311),
 (1852269562616411549542,.fn 332),
 (32199616449438067,.fn 454),
 (27988542917800564,.fn 461),
 (7878074452061484852980316991076,.fn 471),
 (530702627578329757939045,.fn 478),
 (2016787059727740122363008260011365,.fn 485),
 (479142750661331733345140,.fn 492),
 (7165066974322454374,.fn 499),
 (469569829229196437186414,.fn 506),
 (469569829229196386330994,.fn 513),
 (27429926402092644,.fn 520),
 (1944867219061649339252,.fn 534),
 (133441927707620975322231668,.fn 541),
 (91780991315820,.fn 558),
 (1445866416556570995813,.fn 579),
 (1852138852,.fn 590),
 (144355354047705506072392564,.fn 597),
 (1999557252955565420390,.fn 604),
 (1907614012473816477284,.fn 611),
 (1907614012473699036531,.fn 618),
 (7716201608145609707126982468978,.fn 625),
 (459921455854583349604206,.fn 632),
 (30141412531032630524799508844,.fn 644),
 (7716201608017419828958130825571,.fn 651),
 (1796568187000451392883,.fn 658),
 (7017844480471491939,.fn 663),
 (459921455872196893568611,.fn 670),
 (521516288922651466753395,.fn 677),
 (521516288922677572299877,.fn 684),
 (2340515189842302722375339026769252,.fn 691),
 (9142637460321495011413199709540,.fn 698),
 (33851672205483642591545746803,.fn 705),
 (30765223050532546019544166252,.fn 712),
 (521516288922673192723315,.fn 719),
 (1796568186944750777204,.fn 726),
 (516535525596385968743539,.fn 733),
 (139505576481956406116967795,.fn 740),
 (113668262487410,.fn 747),
 (7800697121625194525130723650675,.fn 754),
 (84015690904691,.fn 772),
 (23188113252575604,.fn 793),
 (1760250341483069404020,.fn 804),
 (450624087419648520054131,.tup [.str [65],.str [66],.str [67],.str [73],.str [83,73,78],.str [74]]),
 (1760250341483019658085,.tup [.str dD,.str bL,.str aJ,.str aQ,.str aV,.str aP]),
 (115359766379416827079058788,.tup [.tup [.str bL,.str aQ],.tup [.str bL,.str aV],.tup [.str bL,.str aP],.tup [.str bL,.str bf],.tup [.str bL,.str bw],.tup [.str bL,.str aW],.tup [.str aJ,.str aQ],.tup [.str aJ,.str aV],.tup [.str aJ,.str aP],.tup [.str aJ,.str bf],.tup [.str aJ,.str cR],.tup [.str aJ,.str bw],.tup [.str aJ,.str cS],.tup [.str aJ,.str cW],.tup [.str aJ,.str aW],.tup [.str aQ,.str aV],.tup [.str aQ,.str aP],.tup [.str aQ,.str bf],.tup [.str aQ,.str cR],.tup [.str aQ,.str bw],.tup [.str aQ,.str cS],.tup [.str aQ,.str cW],.tup [.str aQ,.str aW],.tup [.str aV,.str aP],.tup [.str aV,.str bf],.tup [.str aV,.str cW],.tup [.str aV,.str aW],.tup [.str aP,.str bf],.tup [.str aP,.str cW],.tup [.str aP,.str cS],.tup [.str aP,.str bw],.tup [.str aP,.str aW],.tup [.str bf,.str cS],.tup [.str bf,.str cW],.tup [.str bf,.str bw],.tup [.str bf,.str aW],.tup [.str cR,.str bw],.tup [.str cR,.str cW],.tup [.str cR,.str aW],.tup [.str bw,.str dD],.tup [.str bw,.str cW],.tup [.str bw,.str aW],.tup [.str cW,.str cS],.tup [.str cW,.str aW],.tup [.str cS,.str aW],.tup [.str bf,.str bf],.tup [.str bU,.str aW]]),
 (1760250341482835370359,.fn 861),
 (32470887554995256498048238874947382110563,.fn 868),
 (1760250341482834783603,.fn 875),
 (1760250341483086898531,.fn 882),
 (1760250341483087162740,.fn 889),
 (495466423873876230215259278289368179,.fn 896),
 (495466423873876155847037156543657075,.fn 903),
 (450624087419601459180392,.fn 908),
 (6875977896418440037,.fn 915),
 (6875977896418242423,.fn 922),
 (6875977896418238839,.fn 929)]
def nms:List S:=[[65],[66],[67],[73],[83,73,78],[74]]
noncomputable def QG(s:S):Option Nat:=nms.findIdx? (As s)
noncomputable def tR(a:Nat)(vs:List V):Option Nat:=match Nat.beq a 558 with
 |true=>match vs with
  |[.str s]=>(QG s).map (30+·)
  |_=>none
 |false=>aT [(793,1),(772,16),(103,17),(579,20)] a
noncomputable def CA:List S:=[bX,cu,cN,bL,bO,b9,fO,aJ,cg]
noncomputable def Be:List (Nat×List S):=[(30,CA),(31,CA),(32,CA),(33,CA),(34,CA),(35,CA),(21,nms),(22,nms),(23,nms),(24,nms),(25,nms),(26,nms),(14,nms),(15,nms),(13,[[67]]),(12,[[65],[65,40,41],[65,47],[66],[66,40,41],[66,47],[67],[67,40,41],[67,47],[73],[73,40,41],[73,47],[83,73,78],[83,73,78,40,41],[83,73,78,47],[74],[74,40,41],[74,47]]),
 (1,[cu,bX,dH,aW,cQ,dI,fh,i6,jJ,eF]),(16,[iA,dP,dF,b6,kZ,eN,iZ,k9]),
 (17,[gD,jm]),(20,[aX,cM,gH,br,gF,bU,bw,aV,cj,gV,iI,iB,jo])]
noncomputable def tmpl(i:Nat):List S:=(aT Be i).getD []
noncomputable def cells:List Nat:=[0,1,2,3,4,5,100,101,102,103,104,105,12,13,14,15,16,17,18,19,20,21,22,23,24,25,26,30,31,32,33,34,35]
noncomputable def g0(n:Nat):G:=⟨cells.map λi=>(i,.free),n,[]⟩
noncomputable def VS(a:Nat)(vs:List V)(g:G):Option (R V):=match Nat.beq a 861 with
 |false=>none
 |true=>match vs with
  |[.ref 0,.int k]=>match g.get 0,decide (0 < k),lkd g.lk 0 with
   | .pen,true,false=>some (.ask k.toNat λr=>.ok (.int r) g)
   |_,_,_=>some .st
  |_=>some .st
noncomputable def qx:Cfg:={ft:=jr,ct:=I9,gt:=zU,tR,tmpl,excs:=[],exc:=318324321536902574730356,names:=nms,prim:=λ_ _ _=>none}
noncomputable def aA:Cfg:={qx with prim:=VS}
theorem OZ:∀r:Nat,r < 2->r=0\/r=1:=by decide
theorem M3:∀r:Nat,r < 3->r=0\/r=1\/r=2:=by decide
theorem Ja:∀r:Nat,r < 4->r=0\/r=1\/r=2\/r=3:=by decide
theorem M4:∀r:Nat,r < 6->r=0\/r=1\/r=2\/r=3\/r=4\/r=5:=by decide
theorem QH:∀r:Nat,r < 7->r=0\/r=1\/r=2\/r=3\/r=4\/r=5\/r=6:=by decide
theorem Bf{a b c:Nat}(h:a+b<=c):a<=c:=Nat.le_trans (Nat.le_add_right a b) h
theorem l8{a b c:Nat}(h:a<=b)(e:Nat.ble b c=true):a<=c:=Nat.le_trans h (Nat.le_of_ble_eq_true e)
theorem Jb{a b c d:Nat}(q:a=b)(h:b<=c)(e:Nat.ble c d=true):a<=d:=q▸l8 h e
theorem QI{a b c:Nat}(h:a+b<=c):∃k,c=k+b:=Nat.exists_eq_add_of_le' (Nat.le_trans (Nat.le_add_left b a) h)
theorem OQ{a b c:Nat}(h:a+b<=c):∃k,c=a+k+b:=by obtain⟨k,e⟩:=Nat.exists_eq_add_of_le h;exact⟨k,e.trans (Nat.add_right_comm a b k)⟩
theorem O1{a L d:Nat}(h:d<=L):a+L=a+(L - d)+d:=by rw[Nat.add_assoc,Nat.sub_add_cancel h]
theorem QJ{a L d:Nat}(h:d<=L):a+2 * L=a+2 * (L - d)+2 * d:=by rw[Nat.add_assoc,<- Nat.mul_add,Nat.sub_add_cancel h]
theorem QK{a d:Nat}(h:d<=7):a+11=a+(7 - d)+4+d:=by rw[Nat.add_right_comm _ 4,<- O1 h]
theorem RE{k g:Nat}(h:g=k+1):k<=g:=Nat.le_of_lt (Nat.lt_of_lt_of_eq (Nat.lt_succ_self k) h.symm)
theorem RG{l k g N:Nat}(h:g=k+1)(z:l+g<=N):l+1+k<=N:=by subst h;rw[Nat.add_assoc,Nat.add_comm 1];exact z
theorem QL{l k d:Nat}(h:d<=2):l+58+k=(l+58+k - d)+d:=(Nat.sub_add_cancel (Nat.le_trans h (Nat.le_trans (Nat.le_add_left 2 (l+56)) (Nat.le_add_right _ k)))).symm
theorem QM{l k d s:Nat}(h:d<=2)(h7:s<=7):∃j,l+58+k - d=l+40+j+2 * s:=
 OQ (Nat.le_sub_of_add_le (Nat.le_trans (Nat.add_le_add (Nat.add_le_add_left (Nat.mul_le_mul_left 2 h7) (l+40)) h) (Nat.le_trans (Nat.le_add_right (l+56) 2) (Nat.le_add_right _ k))))
theorem QN{l k m:Nat}(h:l+40+k<=m):∃j,m=l+35+j+2:=OQ (Nat.le_trans (Nat.le_add_right (l+37) 3) (Bf h))
theorem QO{l k m b:Nat}(h:l+35+k<=m)(h3:b<=3):∃j,m=l+20+j+3 * b:=
 OQ (Nat.le_trans (Nat.add_le_add_left (Nat.mul_le_mul_left 3 h3) (l+20)) (Nat.le_trans (Nat.le_add_right (l+29) 6) (Bf h)))
theorem QS{l k m:Nat}(h:l+20+k<=m):∃j,m=j+20:=QI (Bf h)
theorem Sg{a:Nat}(h:a+(17 - a)=0):False:=by have e:=Nat.add_eq_zero_iff.mp h;rw[e.1]at e;exact nomatch e.2
theorem Jc{d n s R:Nat}(h:d+3 * (n+1+s) < R):d+1+1+3 * (n+s) < R:=by rw[Nat.add_right_comm n 1 s]at h;exact Nat.lt_of_le_of_lt (Nat.le_trans (Nat.le_of_eq (Nat.add_right_comm d 2 (3 * (n+s)))) (Nat.le_succ (d+3 * (n+s)+2))) h
theorem QT{d n s R:Nat}(h:d+3 * (n+1+s) < R):d+1 < R:=Nat.lt_of_le_of_lt (Nat.le_trans (Nat.le_succ _) (Bf (Nat.le_refl _))) (Jc h)
theorem M5{d n s R:Nat}(h:d+40 * (n+1+s)+100 < R):d+1+3+40 * (n+s)+100 < R:=by rw[Nat.add_right_comm n 1 s]at h;exact Nat.lt_of_le_of_lt (Nat.add_le_add_right (Nat.le_trans (Nat.le_of_eq (Nat.add_right_comm d 4 (40 * (n+s)))) (Nat.le_add_right (d+40 * (n+s)+4) 36)) 100) h
theorem QU{d n R:Nat}(h:d+3 * (n+1+13) < R):d+1+3 * (12+0) < R:=Nat.lt_of_le_of_lt (Nat.add_le_add (Nat.le_succ (d+1)) (Nat.mul_le_mul_left 3 (Nat.le_trans (Nat.le_succ 12) (Nat.le_add_left 13 n)))) (Jc h)
theorem QV{d n R:Nat}(h:d+40 * (n+1+13)+100 < R):d+3+40 * (12+0)+100 < R:=by have h:=M5 h;refine Nat.lt_of_le_of_lt (Nat.add_le_add_right ?_ 100) h;exact @Nat.add_le_add (d+3) (d+1+3) (40 * 12) (40 * (n+13)) (Nat.le_succ (d+3)) (Nat.mul_le_mul_left 40 (Nat.le_trans (Nat.le_succ 12) (Nat.le_add_left 13 n)))
theorem QW{d n s R:Nat}(h:d+40 * (n+1+s)+100 < R):d+3+40 * (n+s)+100 < R:=by refine Nat.lt_of_le_of_lt ?_ (M5 h);rw[Nat.add_right_comm d 1 3];exact Nat.add_le_add_right (Nat.add_le_add_right (Nat.le_succ _) _) _
end Mine
namespace Mine
open PySem PySem.W PySem.Calls PyProof.Rows
noncomputable def toS(s:S):Str:=⟨s.toArray⟩
theorem mK{a b:S}(h:toS a=toS b):a=b:=by have h:=congrArg (λx=>x.cps.toList) h;simpa [toS]using h
theorem iC:∀a:S,As a a=true
 |[]=>rfl
 |a::x=>by
  show(match Nat.beq a a with|true=>As x x|false=>false)=true
  rw[Nat.beq_refl];exact iC x
theorem vC:∀{a b:S},As a b=true->a=b:=λ{a}=>by
 induction a with
 |nil=>exactλ{b} h=>match b with
  |[]=>rfl
  |_::_=>nomatch (h:false=true)
 |cons a x ih=>exactλ{b} h=>match b with
  |[]=>nomatch (h:false=true)
  |b::y=>by
   have h:(match Nat.beq a b with|true=>As x y|false=>false)=true:=h
   cases q:Nat.beq a b with
   |false=>rw[q]at h;exact nomatch h
   |true=>rw[q]at h;rw[Nat.eq_of_beq_eq_true q,ih h]
theorem cY{a b:S}:As a b=true↔a=b:=⟨vC,λh=>h▸iC a⟩
theorem mL{a b:S}:As a b=false↔a≠b:=by rw[<- Bool.not_eq_true,cY]
noncomputable def Jd:Nat->Nat->S->S
 |0,_,acc=>acc
 |f+1,n,acc=>match Nat.beq n 0 with
  |true=>acc
  |false=>Jd f (n / 256) (n % 256::acc)
noncomputable def enc(n:Nat)(s:S):Nat:=s.foldl (λa c=>a * 256+c) n
theorem xD:∀(f n:Nat)(acc:S),n<=f->enc 0 (Jd f n acc)=enc n acc:=λf=>by
 induction f with
 |zero=>exactλn acc h=>by rw[Nat.le_zero.mp h];rfl
 |succ f ih=>
  intro n acc h;show enc 0 (match Nat.beq n 0 with|true=>acc|false=>Jd f (n / 256) (n % 256::acc))=_
  cases q:Nat.beq n 0 with
  |true=>rw[Nat.eq_of_beq_eq_true q]
  |false=>
   have hn:0 < n:=Nat.pos_of_ne_zero (Nat.ne_of_beq_eq_false q);refine(ih (n / 256) (n % 256::acc) (Nat.le_of_lt_succ (Nat.lt_of_lt_of_le (Nat.div_lt_self hn (by decide)) h))).trans ?_
   show enc (n / 256 * 256+n % 256) acc=enc n acc;rw[Nat.div_add_mod']
noncomputable def nm(n:Nat):Str:=toS (Jd n n [])
theorem M6{a b:Nat}(h:nm a=nm b):a=b:=by have h:=mK h;have e1:=xD a a [] (Nat.le_refl _);have e2:=xD b b [] (Nat.le_refl _);rw[h,e2]at e1;exact e1.symm
theorem xE{c:Nat}{r:S}:sok (c::r)=true↔c < 128/\sok r=true:=by
 refine(?_:(match Nat.blt c 128 with|true=>sok r|false=>false)=true↔_)
 rw[<- Nat.blt_eq];cases Nat.blt c 128 with
 |true=>exact⟨λk=>⟨rfl,k⟩,λk=>k.2⟩
 |false=>exact⟨λk=>(nomatch k),λk=>(nomatch k.1)⟩
theorem vD{s:S}:sok s=true↔∀c∈s,c < 128:=by
 induction s with
 |nil=>exact⟨λ_ _ h=>(nomatch h),λ_=>rfl⟩
 |cons c r ih=>rw[xE,ih,List.forall_mem_cons]
theorem zV{a b:S}(h:sok a=true)(k:sok b=true):sok (a++b)=true:=by
 rw[vD]at *;intro c hc;rcases List.mem_append.mp hc with m|m
 ·exact h c m
 ·exact k c m
theorem CB{s:S}(h:sok s=true):PyData.strOk (toS s)=true:=by
 unfold PyData.strOk toS;rw[<- Array.all_toList,List.all_eq_true];intro c hc;have:=vD.mp h c (by simpa using hc)
 exact decide_eq_true (Nat.lt_trans this (by decide))
theorem Bg{a b:Nat}(h:a≠b):Nat.beq a b=false:=by
 cases q:Nat.beq a b with
 |true=>exact absurd (Nat.eq_of_beq_eq_true q) h
 |false=>rfl
theorem fj{α:Type}(l:List (Nat×α))(i:Nat)(a:α):aT (jf l i a) i=some a:=by
 have hd:∀r,aT ((i,a)::r) i=some a:=λr=>by
  show(match Nat.beq i i with|true=>some a|false=>aT r i)=_
  rw[Nat.beq_refl]
 induction l with
 |nil=>exact hd []
 |cons p l ih=>
  show aT (match Nat.beq p.1 i with|true=>(i,a)::l|false=>p::jf l i a) i=_
  cases h:Nat.beq p.1 i with
  |true=>exact hd l
  |false=>
   show(match Nat.beq p.1 i with|true=>some p.2|false=>aT (jf l i a) i)=_
   rw[h];exact ih
theorem gW{α:Type}(l:List (Nat×α)){i j:Nat}(a:α)(h:j≠i):aT (jf l i a) j=aT l j:=by
 have hd:∀r,aT ((i,a)::r) j=aT r j:=λr=>by
  show(match Nat.beq i j with|true=>some a|false=>aT r j)=_
  rw[Bg (Ne.symm h)]
 induction l with
 |nil=>exact hd []
 |cons p l ih=>
  show aT (match Nat.beq p.1 i with|true=>(i,a)::l|false=>p::jf l i a) j=(match Nat.beq p.1 j with|true=>some p.2|false=>aT l j)
  cases q:Nat.beq p.1 i with
  |true=>rw[Nat.eq_of_beq_eq_true q,Bg (Ne.symm h)];exact hd l
  |false=>
   show(match Nat.beq p.1 j with|true=>some p.2|false=>aT (jf l i a) j)=_
   rw[ih]
structure Ga where
 news:List (Addr×Obj)
 rho:List (Nat×Addr)
 jun:List Addr
 lk:List (Nat×Obj)
noncomputable def Ga.mut(γ:Ga):List Addr:=γ.rho.map (·.2)++γ.jun
abbrev iJ(vs:List Value)(n:Nat):Obj:={cls:=.type "tuple",data:=.seq vs.toArray n}
section
variable(prog:Program)(w:World)(K:Frag)
noncomputable def At(γ:Ga)(a:Addr)(o:Obj):Prop:=((a,o)∈γ.news/\a∉γ.mut)\/K.lookup a=some o
mutual
inductive RV(γ:Ga):Value->V->Prop
 |none:RV γ .none .none
 |bool (b:Bool):RV γ (.bool b) (.bool b)
 |int (i:Int) (t:Tok):RV γ (.int i t) (.int i)
 |str (s:S) (t:Tok) (h:sok s=true):RV γ (.str (toS s) t) (.str s)
 |tup {a:Addr} {vs:List Value} {n:Nat} {l:List V}:At K γ a (iJ vs n)->cH γ vs l->l.length<=1000000->RV γ (.ref a) (.tup l)
 |lst {a:Addr} {vs:List Value} {n:Nat} {l:List V}:At K γ a (listOf vs.toArray n)->cH γ vs l->l.length<=1000000->RV γ (.ref a) (.lst l)
 |dct {a:Addr} {o:Obj} {kvs:List (Str×Value)} {l:List (S×V)}:(a,o)∈γ.news->a∉γ.mut->o.IsDictOf (strKind prog w) kvs->gR γ kvs l->l.length<=100->RV γ (.ref a) (.dct l)
 |inst {x C d dx:Nat}:γ.rho.lookup d=some dx->At K γ x (instObj C dx)->RV γ (.ref x) (.inst C d)
 |ref {i a:Nat}:γ.rho.lookup i=some a->RV γ (.ref a) (.ref i)
 |fn (a:Nat):RV γ (.ref a) (.fn a)
 |jl {a:Nat}:a∈γ.jun->RV γ (.ref a) .jl
inductive cH(γ:Ga):List Value->List V->Prop
 |nil:cH γ [] []
 |cons {v:Value} {x:V} {vs:List Value} {l:List V}:RV γ v x->cH γ vs l->cH γ (v::vs) (x::l)
inductive gR(γ:Ga):List (Str×Value)->List (S×V)->Prop
 |nil:gR γ [] []
 |cons {k:S} {v:Value} {x:V} {vs:List (Str×Value)} {l:List (S×V)}:sok k=true->RV γ v x->gR γ vs l->gR γ ((toS k,v)::vs) ((k,x)::l)
end
end
structure Ext(γ γ':Ga):Prop where
 news:∀a o,(a,o)∈γ.news->a∉γ.mut->(a,o)∈γ'.news/\a∉γ'.mut
 rho:∀i a,γ.rho.lookup i=some a->γ'.rho.lookup i=some a
 jun:∀a∈γ.jun,a∈γ'.jun
 lk:γ'.lk=γ.lk
theorem Ext.refl(γ:Ga):Ext γ γ:=⟨λ_ _ h k=>⟨h,k⟩,λ_ _ h=>h,λ_ h=>h,rfl⟩
theorem Ext.trans{a b c:Ga}(h:Ext a b)(k:Ext b c):Ext a c:=
 ⟨λx o h1 h2=>let ⟨p,q⟩:=h.news x o h1 h2;k.news x o p q,λi a e=>k.rho i a (h.rho i a e),λa m=>k.jun a (h.jun a m),k.lk.trans h.lk⟩
section
variable{prog:Program}{w:World}{K:Frag}{γ γ':Ga}
theorem At.ext(e:Ext γ γ'){a:Addr}{o:Obj}(h:At K γ a o):At K γ' a o:=h.imp (λ⟨p,q⟩=>e.news a o p q) id
noncomputable def Nc(o:Obj):Prop:=(∃C,o.cls=.ref C)\/o.cls=.type "tuple"\/o.cls=.type "list"\/o.cls=.type "dict"
structure Mp(γ γ':Ga):Prop where
 news:∀a o,Nc o->(a,o)∈γ.news->a∉γ.mut->(a,o)∈γ'.news/\a∉γ'.mut
 rho:∀i a,γ.rho.lookup i=some a->γ'.rho.lookup i=some a
 jun:∀a∈γ.jun,a∈γ'.jun
theorem Ext.mp(e:Ext γ γ'):Mp γ γ':=⟨λa o _=>e.news a o,e.rho,e.jun⟩
theorem At.map(e:Mp γ γ'){a:Addr}{o:Obj}(n:Nc o)(h:At K γ a o):At K γ' a o:=h.imp (λ⟨p,q⟩=>e.news a o n p q) id
theorem RV.map(e:Mp γ γ'){v:Value}{x:V}(h:RV prog w K γ v x):RV prog w K γ' v x:=
 RV.rec (motive_1:=λv x _=>RV prog w K γ' v x) (motive_2:=λv x _=>cH prog w K γ' v x) (motive_3:=λv x _=>gR prog w K γ' v x) .none .bool .int .str (λh _ z r=>.tup (h.map e (.inr (.inl rfl))) r z) (λh _ z r=>.lst (h.map e (.inr (.inr (.inl rfl)))) r z)
  (λh m d _ z r=>let ⟨_,_,c,_⟩:=d;have n:=e.news _ _ (.inr (.inr (.inr c.1))) h m;.dct n.1 n.2 d r z) (λh k=>.inst (e.rho _ _ h) (k.map e (.inl ⟨_,rfl⟩))) (λh=>.ref (e.rho _ _ h)) .fn (λh=>.jl (e.jun _ h)) .nil (λ_ _ h r=>.cons h r) .nil (λk _ _ h r=>.cons k h r) h
theorem RV.ext(e:Ext γ γ'){v:Value}{x:V}(h:RV prog w K γ v x):RV prog w K γ' v x:=h.map e.mp
theorem cH.ind{P:List Value->List V->Prop}(h0:P [] [])(h1:∀{u:Value}{x:V}{us:List Value}{l:List V},RV prog w K γ u x->cH prog w K γ us l->P us l->P (u::us) (x::l)){us:List Value}{l:List V}(h:cH prog w K γ us l):P us l:=
 cH.rec (motive_1:=λ_ _ _=>True) (motive_2:=λus l _=>P us l) (motive_3:=λ_ _ _=>True) trivial (λ_=>trivial) (λ_ _=>trivial) (λ_ _ _=>trivial) (λ_ _ _ _=>trivial) (λ_ _ _ _=>trivial) (λ_ _ _ _ _ _=>trivial)
  (λ_ _=>trivial) (λ_=>trivial) (λ_=>trivial) (λ_=>trivial) h0 (λh r _ p=>h1 h r p) trivial (λ_ _ _ _ _=>trivial) h
theorem gR.ind{P:List (Str×Value)->List (S×V)->Prop}(h0:P [] [])(h1:∀{k:S}{u:Value}{x:V}{us:List (Str×Value)}{l:List (S×V)},sok k=true->RV prog w K γ u x->gR prog w K γ us l->P us l->P ((toS k,u)::us) ((k,x)::l)){us:List (Str×Value)}{l:List (S×V)}(h:gR prog w K γ us l):P us l:=
 gR.rec (motive_1:=λ_ _ _=>True) (motive_2:=λ_ _ _=>True) (motive_3:=λus l _=>P us l) trivial (λ_=>trivial) (λ_ _=>trivial) (λ_ _ _=>trivial) (λ_ _ _ _=>trivial) (λ_ _ _ _=>trivial) (λ_ _ _ _ _ _=>trivial)
  (λ_ _=>trivial) (λ_=>trivial) (λ_=>trivial) (λ_=>trivial) trivial (λ_ _ _ _=>trivial) h0 (λk h r _ p=>h1 k h r p) h
theorem cH.map(e:Mp γ γ'){v:List Value}{x:List V}(h:cH prog w K γ v x):cH prog w K γ' v x:=h.ind .nil λh _ r=>.cons (h.map e) r
theorem gR.map(e:Mp γ γ'){v:List (Str×Value)}{x:List (S×V)}(h:gR prog w K γ v x):gR prog w K γ' v x:=h.ind .nil λk h _ r=>.cons k (h.map e) r
theorem cH.ext(e:Ext γ γ'){v:List Value}{x:List V}(h:cH prog w K γ v x):cH prog w K γ' v x:=h.map e.mp
theorem gR.ext(e:Ext γ γ'){v:List (Str×Value)}{x:List (S×V)}(h:gR prog w K γ v x):gR prog w K γ' v x:=h.map e.mp
theorem cH.length{v:List Value}{x:List V}(h:cH prog w K γ v x):v.length=x.length:=h.ind (P:=λv x=>v.length=x.length) rfl λ_ _ r=>congrArg (·+1) r
theorem cH.append{v:List Value}{x:List V}{v':List Value}{x':List V}(h:cH prog w K γ v x)(k:cH prog w K γ v' x'):cH prog w K γ (v++v') (x++x'):=
 h.ind (P:=λv x=>cH prog w K γ (v++v') (x++x')) k λh _ r=>.cons h r
noncomputable def O2(prog:Program)(w:World)(K:Frag)(γ:Ga)(v:List Value)(x:List V):Prop:=∀(i:Nat)(y:V),x[i]?=some y->∃u,v[i]?=some u/\RV prog w K γ u y
theorem cH.get{v:List Value}{x:List V}(h:cH prog w K γ v x){i:Nat}{y:V}(e:x[i]?=some y):∃u,v[i]?=some u/\RV prog w K γ u y:=
 h.ind (P:=O2 prog w K γ) (λi y e=>nomatch (e:none=some y)) (λ{u x us l} h _ r i y e=>match i with
  |0=>⟨u,rfl,Option.some.inj (e:some x=some y)▸h⟩
  |i+1=>r i y e) i y e
theorem cH.drop{v:List Value}{x:List V}(h:cH prog w K γ v x):∀n,cH prog w K γ (v.drop n) (x.drop n):=
 h.ind (P:=λv x=>∀n,cH prog w K γ (v.drop n) (x.drop n)) (λn=>by rw[List.drop_nil,List.drop_nil];exact .nil) λh q r n=>match n with
  |0=>.cons h q
  |n+1=>r n
theorem cH.take{v:List Value}{x:List V}(h:cH prog w K γ v x):∀n,cH prog w K γ (v.take n) (x.take n):=
 h.ind (P:=λv x=>∀n,cH prog w K γ (v.take n) (x.take n)) (λn=>by rw[List.take_nil,List.take_nil];exact .nil) λh q r n=>match n with
  |0=>.nil
  |n+1=>.cons h (r n)
theorem cH.set{v:List Value}{x:List V}(h:cH prog w K γ v x)(n:Nat){u:Value}{y:V}(k:RV prog w K γ u y):cH prog w K γ (v.set n u) (x.set n y):=
 h.ind (P:=λv x=>∀n,cH prog w K γ (v.set n u) (x.set n y)) (λ_=>.nil) (λh q r n=>match n with
  |0=>.cons k q
  |n+1=>.cons h (r n)) n
noncomputable def ER(prog:Program)(w:World)(K:Frag)(γ:Ga)(v:List (Str×Value))(k:S):Option V->Prop
 |some y=>∃u,PySem.valueAt v (toS k)=some u/\RV prog w K γ u y
 |none=>PySem.valueAt v (toS k)=none
theorem gR.mO{v:List (Str×Value)}{x:List (S×V)}(h:gR prog w K γ v x)(k:S):ER prog w K γ v k (SX x k):=
 h.ind (P:=λv x=>ER prog w K γ v k (SX x k)) rfl λ{k₀ u x us l} _ h _ r=>by
  have e:PySem.valueAt ((toS k₀,u)::us) (toS k)=if toS k₀=toS k then some u else PySem.valueAt us (toS k):=by by_cases q:toS k₀=toS k<;>simp [PySem.valueAt,q]
  show ER prog w K γ _ k (match As k₀ k with|true=>some x|false=>SX l k)
  cases q:As k₀ k with
  |true=>exact⟨u,e.trans (if_pos (congrArg toS (vC q))),h⟩
  |false=>
   have e:=e.trans (if_neg λe=>mL.mp q (mK e));dsimp only;cases z:SX l k with
   |none=>rw[z]at r;exact e.trans r
   |some y=>rw[z]at r;exact⟨r.choose,e.trans r.choose_spec.1,r.choose_spec.2⟩
theorem gR.valueAt{v:List (Str×Value)}{x:List (S×V)}(h:gR prog w K γ v x)(k:S):match SX x k with
  |some y=>∃u,PySem.valueAt v (toS k)=some u/\RV prog w K γ u y
  |none=>PySem.valueAt v (toS k)=none:=h.mO k
theorem gR.keys{v:List (Str×Value)}{x:List (S×V)}(h:gR prog w K γ v x):v.map (·.1)=x.map λp=>toS p.1:=
 h.ind (P:=λv x=>v.map (·.1)=x.map λp=>toS p.1) rfl λ_ _ _ r=>congrArg (_::·) r
end
noncomputable def cnt:List (S×Option V)->Nat
 |[]=>0
 |(_,some _)::r=>cnt r+1
 |(_,none)::r=>cnt r
noncomputable def mQ(tab:List (S×Option V))(l:List (S×V)):Prop:=(∀k,S3 tab k=SX l k)/\cnt tab=l.length/\tab.length<=100
section
variable(prog:Program)(w:World)(K:Frag)
inductive Qy(γ:Ga)(o:Obj):Prop
 |mk (la:Addr) (at':Int) (t n:Nat) (xs:List Value) (nn:Nat) (l:List V) (e:o=listOf #[.ref la,.int at' t] n) (h0:0<=at') (ha:At K γ la (listOf (List.toArray xs) nn)) (r:cH prog w K γ xs l) (i:TH l=true) (ne:l≠[]) (z:l.length<=1001)
inductive ES(γ:Ga)(left i:Nat)(l:List V):Prop
 |mk (a:Addr) (its:List Value) (n:Nat) (r:γ.rho.lookup i=some a) (m:(a,listOf (List.toArray its) n)∈γ.news) (rs:cH prog w K γ its l) (z:l.length+left<=1000000)
inductive U8(γ:Ga)(i:Nat)(tab:List (S×Option V))(ord:List S):Prop
 |mk (a:Addr) (o:Obj) (kvs:List (Str×Value)) (l:List (S×V)) (r:γ.rho.lookup i=some a) (m:(a,o)∈γ.news) (d:o.IsDictOf (strKind prog w) kvs) (p:gR prog w K γ kvs l) (e:l.map (·.1)=ord) (t:mQ tab l)
inductive O3(γ:Ga)(i:Nat):Prop
 |mk (a:Addr) (o:Obj) (r:γ.rho.lookup i=some a) (m:(a,o)∈γ.news) (p:Qy prog w K γ o)
noncomputable def jK(γ:Ga)(left:Nat)(i:Nat):By->Prop
 | .free=>γ.rho.lookup i=none
 | .pen=>O3 prog w K γ i
 | .list l=>ES prog w K γ left i l
 | .dict tab ord=>U8 prog w K γ i tab ord
structure gq(γ:Ga)(g:G):Prop where
 nd:(γ.news.map (·.1)).Nodup
 md:γ.mut.Nodup
 nU:∀a∈γ.mut,a∈γ.news.map (·.1)
 cell:∀i c,aT g.hp i=some c->jK prog w K γ g.left i c
 ju:∀a∈γ.jun,∃its n,(a,listOf its n)∈γ.news/\its.size+g.left<=1000000
 lf:g.left<=900000
 sL:γ.lk.map (·.1)=g.lk
 tO:∀i o,(i,o)∈γ.lk->∃a,γ.rho.lookup i=some a/\(a,o)∈γ.news
noncomputable def Bd(cl:List (Str×Addr))(γ:Ga)(m:Str->Option Value)(y:Str)(u:Value):Prop:=
 (cl.lookup y=none->m y=some u)/\∀c,cl.lookup y=some c->∃o,(c,o)∈γ.news/\c∉γ.mut/\o.data=.cell (some u)
noncomputable def Ls(cl:List (Str×Addr))(γ:Ga)(m:Str->Option Value)(l:Loc):Prop:=∀x v,aT l x=some v->∃u,Bd cl γ m (nm x) u/\RV prog w K γ u v
end
section
variable{prog:Program}{w:World}{K:Frag}{γ γ':Ga}{m:Str->Option Value}{l:Loc}{cl:List (Str×Addr)}
theorem Bd.ext{y:Str}{u:Value}(e:Ext γ γ')(h:Bd cl γ m y u):Bd cl γ' m y u:=⟨h.1,λc hc=>let ⟨o,a,b,d⟩:=h.2 c hc;⟨o,(e.news _ _ a b).1,(e.news _ _ a b).2,d⟩⟩
theorem Ls.ext(e:Ext γ γ')(h:Ls prog w K cl γ m l):Ls prog w K cl γ' m l:=λx v q=>let ⟨u,a,b⟩:=h x v q;⟨u,a.ext e,b.ext e⟩
theorem Ls.set(h:Ls prog w K cl γ m l)(x:Nat){u:Value}{v:V}(hx:cl.lookup (nm x)=none)(r:RV prog w K γ u v):Ls prog w K cl γ (λy=>if y=nm x then some u else m y) (bY l x v):=λy v' q=>by
 unfold bY at q;by_cases e:y=x
 ·subst e;rw[fj]at q;cases q;exact⟨u,⟨λ_=>if_pos rfl,λc hc=>by rw[hx]at hc;cases hc⟩,r⟩
 ·rw[gW _ _ e]at q;obtain⟨u',a,b⟩:=h y v' q;exact⟨u',⟨λhn=>(if_neg λz=>e (M6 z)).trans (a.1 hn),a.2⟩,b⟩
theorem Qy.map(e:Mp γ γ'){o:Obj}(h:Qy prog w K γ o):Qy prog w K γ' o:=by obtain⟨la,at',t,n,xs,nn,l,a,b,c,d,r,ne,z⟩:=h;exact⟨la,at',t,n,xs,nn,l,a,b,c.map e (.inr (.inr (.inl rfl))),d.map e,r,ne,z⟩
end
section
variable{prog:Program}{w:World}{K:Frag}{γ γ':Ga}{g:G}
theorem jK.map(e:Mp γ γ'){i left left':Nat}{c:By}(hk:∀a o,γ.rho.lookup i=some a->(a,o)∈γ.news->(a,o)∈γ'.news)(hf:γ.rho.lookup i=none->γ'.rho.lookup i=none)(hl:left'<=left)
  (h:jK prog w K γ left i c):jK prog w K γ' left' i c:=by
 cases c with
 |free=>exact hf h
 |pen=>obtain⟨a,o,r,m,p⟩:=h;exact⟨a,o,e.rho _ _ r,hk _ _ r m,p.map e⟩
 |list l=>obtain⟨a,its,n,r,m,p,q⟩:=h;exact⟨a,its,n,e.rho _ _ r,hk _ _ r m,p.map e,Nat.le_trans (Nat.add_le_add_left hl _) q⟩
 |dict tab ord=>obtain⟨a,o,kvs,l,r,m,d,p,q,t⟩:=h;exact⟨a,o,kvs,l,e.rho _ _ r,hk _ _ r m,d,p.map e,q,t⟩
theorem jK.ext(e:Ext γ γ'){i left left':Nat}{c:By}(hk:∀a o,γ.rho.lookup i=some a->(a,o)∈γ.news->(a,o)∈γ'.news)(hf:γ.rho.lookup i=none->γ'.rho.lookup i=none)(hl:left'<=left)
  (h:jK prog w K γ left i c):jK prog w K γ' left' i c:=h.map e.mp hk hf hl
theorem SV{α:Type}{l:List (Nat×α)}{i:Nat}{a:α}(h:l.lookup i=some a):(i,a)∈l:=by
 induction l with
 |nil=>cases h
 |cons p l ih=>
  obtain⟨j,b⟩:=p;rw[List.lookup_cons]at h;by_cases e:i=j
  ·subst e;simp at h;subst h;exact .head _
  ·have:(i==j)=false:=by simpa using e
   rw[this]at h;exact .tail _ (ih h)
theorem gq.lu(_:gq prog w K γ g){i:Nat}{a:Addr}(h:γ.rho.lookup i=some a):a∈γ.mut:=
 List.mem_append_left _ (List.mem_map.mpr ⟨(i,a),SV h,rfl⟩)
theorem vE{a:Addr}(h:a∈γ.jun):a∈γ.mut:=List.mem_append_right _ h
theorem CC{α β:Type}{l:List (α×β)}(h:(l.map (·.2)).Nodup){i j:α}{a:β}(h1:(i,a)∈l)(h2:(j,a)∈l):i=j:=by
 induction l with
 |nil=>cases h1
 |cons p l ih=>
  rw[List.map_cons,List.nodup_cons]at h;rcases List.mem_cons.mp h1 with e1|m1
  ·rcases List.mem_cons.mp h2 with e2|m2
   ·rw[<- e1]at e2;exact(Prod.mk.inj e2).1.symm
   ·exact absurd (List.mem_map.mpr ⟨_,m2,by rw[<- e1]⟩) h.1
  ·rcases List.mem_cons.mp h2 with e2|m2
   ·exact absurd (List.mem_map.mpr ⟨_,m1,by rw[<- e2]⟩) h.1
   ·exact ih h.2 m1 m2
theorem gq.Bh(H:gq prog w K γ g){i j:Nat}{a:Addr}(h1:γ.rho.lookup i=some a)(h2:γ.rho.lookup j=some a):i=j:=
 CC (List.nodup_append.mp H.md).1 (SV h1) (SV h2)
theorem gq.vF(H:gq prog w K γ g){i:Nat}{a:Addr}(h1:γ.rho.lookup i=some a)(h2:a∈γ.jun):False:=
 (List.nodup_append.mp H.md).2.2 a (List.mem_map.mpr ⟨(i,a),SV h1,rfl⟩) a h2 rfl
theorem CD{α β:Type}{l:List (α×β)}(h:(l.map (·.1)).Nodup){a:α}{x y:β}(h1:(a,x)∈l)(h2:(a,y)∈l):x=y:=by
 induction l with
 |nil=>cases h1
 |cons p l ih=>
  rw[List.map_cons,List.nodup_cons]at h;rcases List.mem_cons.mp h1 with e1|m1
  ·rcases List.mem_cons.mp h2 with e2|m2
   ·rw[<- e1]at e2;exact(Prod.mk.inj e2).2.symm
   ·exact absurd (List.mem_map.mpr ⟨_,m2,by rw[<- e1]⟩) h.1
  ·rcases List.mem_cons.mp h2 with e2|m2
   ·exact absurd (List.mem_map.mpr ⟨_,m1,by rw[<- e2]⟩) h.1
   ·exact ih h.2 m1 m2
noncomputable def Ga.push(γ:Ga)(a:Addr)(o:Obj):Ga:={γ with news:=(a,o)::γ.news}
theorem fP{a:Addr}{news:List (Addr×Obj)}(fr:∀p∈news,p.1 < a):a∉news.map (·.1):=λh=>by obtain⟨p,hp,e⟩:=List.mem_map.mp h;exact absurd (fr p hp) (by rw[e];exact Nat.lt_irrefl _)
theorem Ext.push(H:gq prog w K γ g){a:Addr}{o:Obj}:Ext γ (γ.push a o):=
 ⟨λ_ _ h k=>⟨.tail _ h,k⟩,λ_ _ h=>h,λ_ h=>h,rfl⟩
theorem gq.push(H:gq prog w K γ g){a:Addr}{o:Obj}(fr:∀p∈γ.news,p.1 < a):gq prog w K (γ.push a o) g where
 nd:=List.nodup_cons.mpr ⟨fP fr,H.nd⟩
 md:=H.md
 nU:=λb h=>List.mem_cons_of_mem _ (H.nU b h)
 cell:=λi c h=>(H.cell i c h).ext (Ext.push H) (λ_ _ _ m=>.tail _ m) id (Nat.le_refl _)
 ju:=λb h=>let ⟨its,n,m,z⟩:=H.ju b h;⟨its,n,.tail _ m,z⟩
 lf:=H.lf
 sL:=H.sL
 tO:=λi o h=>let ⟨b,r,m⟩:=H.tO i o h;⟨b,r,.tail _ m⟩
theorem At.push(H:gq prog w K γ g){a:Addr}{o:Obj}(fr:∀p∈γ.news,p.1 < a):At K (γ.push a o) a o:=
 .inl ⟨.head _,λh=>fP fr (H.nU a h)⟩
noncomputable def Ga.alloc(γ:Ga)(i:Nat)(a:Addr)(o:Obj):Ga:={γ with news:=(a,o)::γ.news,rho:=(i,a)::γ.rho}
theorem Ext.alloc(H:gq prog w K γ g){i:Nat}{a:Addr}{o:Obj}(fr:∀p∈γ.news,p.1 < a)(hi:γ.rho.lookup i=none):Ext γ (γ.alloc i a o):=
 ⟨λb ob h k=>⟨.tail _ h,λm=>by
  rcases List.mem_append.mp m with m|m
  ·rcases List.mem_cons.mp m with e|m
   ·exact absurd (fr _ h) (by rw[show b=a from e];exact Nat.lt_irrefl _)
   ·exact k (List.mem_append_left _ m)
  ·exact k (List.mem_append_right _ m)⟩,λj b h=>by
  show List.lookup j ((i,a)::γ.rho)=_;rw[List.lookup_cons];by_cases e:j=i
  ·subst e;rw[hi]at h;cases h
  ·rw[show(j==i)=false by simpa using e];exact h,λ_ h=>h,rfl⟩
theorem gq.alloc(H:gq prog w K γ g){i:Nat}{a:Addr}{o:Obj}{c:By}(fr:∀p∈γ.news,p.1 < a)(hi:aT g.hp i=some .free)
  (hc:jK prog w K (γ.alloc i a o) g.left i c):gq prog w K (γ.alloc i a o) ⟨jf g.hp i c,g.left,g.lk⟩where
 nd:=List.nodup_cons.mpr ⟨fP fr,H.nd⟩
 md:=List.nodup_cons.mpr ⟨λh=>fP fr (H.nU a h),H.md⟩
 nU:=λb h=>by
  rcases List.mem_cons.mp h with e|h
  ·rw[e];exact List.mem_cons_self ..
  ·exact List.mem_cons_of_mem _ (H.nU b h)
 cell:=λj c' h=>by
  by_cases e:j=i
  ·subst e;rw[fj]at h;cases h;exact hc
  ·rw[gW _ _ e]at h;refine(H.cell j c' h).ext (Ext.alloc H fr (H.cell i _ hi)) (λ_ _ _ m=>.tail _ m) (λz=>?_) (Nat.le_refl _);show List.lookup j ((i,a)::γ.rho)=_;rw[List.lookup_cons,show(j==i)=false by simpa using e];exact z
 ju:=λb h=>let ⟨its,n,m,z⟩:=H.ju b h;⟨its,n,.tail _ m,z⟩
 lf:=H.lf
 sL:=H.sL
 tO:=λj o' h=>let ⟨b,r,m⟩:=H.tO j o' h;⟨b,(Ext.alloc (o:=o) H fr (H.cell i _ hi)).rho j b r,.tail _ m⟩
theorem cB{i:Nat}{a:Addr}{o:Obj}:(γ.alloc i a o).rho.lookup i=some a:=by show List.lookup i ((i,a)::γ.rho)=_;rw[List.lookup_cons,beq_self_eq_true]
noncomputable def Ga.zW(γ:Ga)(a:Addr)(o:Obj):Ga:={γ with news:=(a,o)::γ.news,jun:=a::γ.jun}
theorem Ext.zW(H:gq prog w K γ g){a:Addr}{o:Obj}(fr:∀p∈γ.news,p.1 < a):Ext γ (γ.zW a o):=
 ⟨λb ob h k=>⟨.tail _ h,λm=>by
  rcases List.mem_append.mp m with m|m
  ·exact k (List.mem_append_left _ m)
  ·rcases List.mem_cons.mp m with e|m
   ·exact absurd (fr _ h) (by rw[show b=a from e];exact Nat.lt_irrefl _)
   ·exact k (List.mem_append_right _ m)⟩,λ_ _ h=>h,λ_ h=>.tail _ h,rfl⟩
theorem gq.zW(H:gq prog w K γ g){a:Addr}{its:Array Value}{n:Nat}(fr:∀p∈γ.news,p.1 < a)(hz:its.size+g.left<=1000000):gq prog w K (γ.zW a (listOf its n)) g where
 nd:=List.nodup_cons.mpr ⟨fP fr,H.nd⟩
 md:=by
  have h1:=List.nodup_append.mp H.md;have hn:a∉γ.mut:=λh=>fP fr (H.nU a h);refine List.nodup_append.mpr ⟨h1.1,List.nodup_cons.mpr ⟨λh=>hn (List.mem_append_right _ h),h1.2.1⟩,λx hx y hy=>?_⟩;rcases List.mem_cons.mp hy with e|hy
  ·rw[e];intro e';exact hn (List.mem_append_left _ (e'▸hx))
  ·exact h1.2.2 x hx y hy
 nU:=λb h=>by
  rcases List.mem_append.mp h with h|h
  ·exact List.mem_cons_of_mem _ (H.nU b (List.mem_append_left _ h))
  ·rcases List.mem_cons.mp h with e|h
   ·rw[e];exact List.mem_cons_self ..
   ·exact List.mem_cons_of_mem _ (H.nU b (List.mem_append_right _ h))
 cell:=λi c h=>(H.cell i c h).ext (Ext.zW H fr) (λ_ _ _ m=>.tail _ m) id (Nat.le_refl _)
 ju:=λb h=>by
  rcases List.mem_cons.mp h with e|h
  ·subst e;exact⟨its,n,.head _,hz⟩
  ·obtain⟨its',n',m,z⟩:=H.ju b h;exact⟨its',n',.tail _ m,z⟩
 lf:=H.lf
 sL:=H.sL
 tO:=λi o h=>let ⟨b,r,m⟩:=H.tO i o h;⟨b,r,.tail _ m⟩
noncomputable def upd(l:List (Addr×Obj))(d:Addr)(o:Obj):List (Addr×Obj):=l.map λp=>if p.1=d then(d,o)else p
noncomputable def Ga.upd(γ:Ga)(d:Addr)(o:Obj):Ga:={γ with news:=Mine.upd γ.news d o}
set_option tactic.hygienic true in
theorem mR(l:List (Addr×Obj))(d:Addr)(o:Obj):(upd l d o).map (·.1)=l.map (·.1):=by
 unfold upd;rw[List.map_map];refine List.map_congr_left λp _=>?_;show(if p.1=d then(d,o)else p).1=p.1
 split
 ·rename_i h;exact h.symm
 ·rfl
theorem l9{l:List (Addr×Obj)}{d a:Addr}{o x:Obj}(h:(a,x)∈l)(hn:a≠d):(a,x)∈upd l d o:=
 List.mem_map.mpr ⟨(a,x),h,if_neg hn⟩
theorem mS{l:List (Addr×Obj)}{d:Addr}{o x:Obj}(h:(d,x)∈l):(d,o)∈upd l d o:=
 List.mem_map.mpr ⟨(d,x),h,if_pos rfl⟩
theorem EU{l:List (Addr×Obj)}{d:Addr}{o:Obj}(h:∀p∈l,p.1≠d):upd l d o=l:=by
 unfold upd
 conv=>rhs;rw[<- List.map_id l]
 exact List.map_congr_left λp hp=>if_neg (h p hp)
theorem mT{d:Addr}{x o:Obj}:∀{l:List (Addr×Obj)},(l.map (·.1)).Nodup->(d,x)∈l->Upd d x o l (upd l d o)
 |[],_,h=>nomatch h
 |p::l,hn,h=>by
  rw[List.map_cons,List.nodup_cons]at hn;rcases List.mem_cons.mp h with e|m
  ·subst e;have hne:∀q∈l,q.1≠d:=λq hq e=>hn.1 (List.mem_map.mpr ⟨q,hq,e⟩);have:upd ((d,x)::l) d o=(d,o)::l:=by
    show(if d=d then(d,o)else(d,x))::upd l d o=_
    rw[if_pos rfl,EU hne]
   rw[this];exact .head hne
  ·have hne:p.1≠d:=λe=>hn.1 (List.mem_map.mpr ⟨_,m,e.symm⟩);have:upd (p::l) d o=p::upd l d o:=by
    show(if p.1=d then(d,o)else p)::upd l d o=_
    rw[if_neg hne]
   rw[this];exact .tail hne (mT hn.2 m)
theorem Ext.upd{d:Addr}{o:Obj}(hd:d∈γ.mut):Ext γ (γ.upd d o):=
 ⟨λ_ _ h k=>⟨l9 h λe=>k (e▸hd),k⟩,λ_ _ h=>h,λ_ h=>h,rfl⟩
theorem Bj:∀{l:List Nat}{i:Nat},lkd l i=false->i∉l
 |[],_,_=>λh=>nomatch h
 |a::l,i,h=>by
  unfold lkd at h;cases q:Nat.beq a i with
  |true=>rw[q]at h;cases h
  |false=>
   rw[q]at h;intro m;rcases List.mem_cons.mp m with e|m
   ·exact Nat.ne_of_beq_eq_false q e.symm
   ·exact Bj h m
theorem gq.upd(H:gq prog w K γ g){i:Nat}{d:Addr}{o:Obj}{c:By}{left:Nat}(hi:γ.rho.lookup i=some d)(hk:lkd g.lk i=false)(hl:left<=g.left)
  (hc:jK prog w K (γ.upd d o) left i c):gq prog w K (γ.upd d o) ⟨jf g.hp i c,left,g.lk⟩where
 nd:=by show((Mine.upd γ.news d o).map (·.1)).Nodup;rw[mR];exact H.nd
 md:=H.md
 nU:=λb h=>by show b∈(Mine.upd γ.news d o).map (·.1);rw[mR];exact H.nU b h
 cell:=λj c' h=>by
  by_cases e:j=i
  ·subst e;rw[fj]at h;cases h;exact hc
  ·rw[gW _ _ e]at h;exact(H.cell j c' h).ext (Ext.upd (H.lu hi)) (λb ob r m=>l9 m λz=>e (H.Bh r (z▸hi))) id hl
 ju:=λb h=>by obtain⟨its,n,m,z⟩:=H.ju b h;exact⟨its,n,l9 m λe=>H.vF hi (e▸h),by show its.size+left<=_;exact Nat.le_trans (Nat.add_le_add_left hl _) z⟩
 lf:=Nat.le_trans hl H.lf
 sL:=H.sL
 tO:=λj o' h=>by obtain⟨b,r,m⟩:=H.tO j o' h;refine⟨b,r,l9 m λe=>?_⟩;have:j=i:=H.Bh r (e▸hi);have hj:j∈g.lk:=H.sL▸List.mem_map.mpr ⟨(j,o'),h,rfl⟩;exact Bj hk (this▸hj)
theorem gq.Je(H:gq prog w K γ g){d:Addr}{its:Array Value}{n left:Nat}(hi:d∈γ.jun)(hl:left<=g.left)(hz:its.size+left<=1000000):gq prog w K (γ.upd d (listOf its n)) ⟨g.hp,left,g.lk⟩where
 nd:=by show((Mine.upd γ.news d _).map (·.1)).Nodup;rw[mR];exact H.nd
 md:=H.md
 nU:=λb h=>by show b∈(Mine.upd γ.news d _).map (·.1);rw[mR];exact H.nU b h
 cell:=λj c' h=>(H.cell j c' h).ext (Ext.upd (vE hi)) (λb ob r m=>l9 m λz=>H.vF (z▸r) hi) id hl
 ju:=λb h=>by
  obtain⟨its',n',m,z⟩:=H.ju b h;by_cases e:b=d
  ·subst e;exact⟨its,n,mS m,hz⟩
  ·exact⟨its',n',l9 m e,by show its'.size+left<=_;exact Nat.le_trans (Nat.add_le_add_left hl _) z⟩
 lf:=Nat.le_trans hl H.lf
 sL:=H.sL
 tO:=λj o' h=>by obtain⟨b,r,m⟩:=H.tO j o' h;exact⟨b,r,l9 m λe=>H.vF r (e▸hi)⟩
end
noncomputable def R.All{α:Type}(Φ:α->G->Prop)(Ψ:Prop):R α->Prop
 | .ok a g=>Φ a g
 | .ex=>Ψ
 | .st=>False
 | .ask k c=>∀i,i < k->(c i).All Φ Ψ
theorem R.All.mono{α:Type}{Φ Φ':α->G->Prop}{Ψ Ψ':Prop}(h:∀a g,Φ a g->Φ' a g)(k:Ψ->Ψ'):∀{r:R α},r.All Φ Ψ->r.All Φ' Ψ'
 | .ok _ _,p=>h _ _ p
 | .ex,p=>k p
 | .st,p=>p
 | .ask _ _,p=>λi hi=>R.All.mono h k (p i hi)
theorem R.All.bind{α β:Type}{f:α->G->R β}{Φ:β->G->Prop}{Ψ:Prop}:∀{r:R α},(r.bind f).All Φ Ψ↔r.All (λa g=>(f a g).All Φ Ψ) Ψ
 | .ok _ _=>Iff.rfl
 | .ex=>Iff.rfl
 | .st=>Iff.rfl
 | .ask _ _=>forall_congr' λ_=>forall_congr' λ_=>R.All.bind
theorem R.All.tr{α:Type}{r':R α}{Φ:α->G->Prop}{Ψ:Prop}:∀{r:R α},(r.tr r').All Φ Ψ↔r.All Φ (r'.All Φ Ψ)
 | .ok _ _=>Iff.rfl
 | .ex=>Iff.rfl
 | .st=>Iff.rfl
 | .ask _ _=>forall_congr' λ_=>forall_congr' λ_=>R.All.tr
theorem R.All.opt{α:Type}{o:Option α}{g:G}{Φ:α->G->Prop}{Ψ:Prop}(h:(opt o g).All Φ Ψ):∃a,o=some a/\Φ a g:=by
 cases o with
 |none=>exact h.elim
 |some a=>exact⟨a,rfl,h⟩
noncomputable def cl(v:V):V:=match v with
 | .bool b=>.bool b
 | .int b=>.int b
 | .none=>.none
 | .str b=>.str b
 |_=>.jl
theorem zX(y:Nat)(v:V)(r:Loc):clean ((y,v)::r)=(y,cl v)::clean r:=by cases v<;>rfl
theorem Bk(l:Loc)(x:Nat):aT (clean l) x=(aT l x).map cl:=by
 induction l with
 |nil=>rfl
 |cons p r ih=>
  obtain⟨y,v⟩:=p;rw[zX];refine(?_:(match Nat.beq y x with|true=>some (cl v)|false=>aT (clean r) x)=(match Nat.beq y x with|true=>some v|false=>aT r x:Option V).map cl)
  cases Nat.beq y x with
  |true=>rfl
  |false=>exact ih
section
variable{prog:Program}{w:World}
theorem jL{o:Obj}{kvs:List (Str×Value)}(h:o.IsDictOf (strKind prog w) kvs):∃es n,o=dictOf es n/\KeysOf (strKind prog w) es.toArray/\Pairs (strKind prog w) es kvs/\(kvs.map (·.1)).Nodup:=by obtain⟨es,ep,⟨h1,h2,h3⟩,hd,hk,hp,hn⟩:=h;obtain⟨c,d,dt,sl⟩:=o;dsimp only at h1 h2 h3 hd;subst h1 h2 h3 hd;exact⟨es.toList,ep,rfl,by simpa using hk,hp,hn⟩
theorem lT{es:List DictEntry}{n:Nat}{kvs:List (Str×Value)}(hk:KeysOf (strKind prog w) es.toArray)(hp:Pairs (strKind prog w) es kvs)(hn:(kvs.map (·.1)).Nodup):(dictOf es n).IsDictOf (strKind prog w) kvs:=
 ⟨es.toArray,n,⟨rfl,rfl,rfl⟩,rfl,hk,by simpa using hp,hn⟩
theorem Uj{k name:Str}{v:Value}(h:(strKind prog w).is k v=true):v.isStr name=decide (k=name)/\∃t,v=.str k t:=by obtain⟨t,rfl⟩:=Value.isStrOf_shape h;exact⟨rfl,t,rfl⟩
theorem CE{es:List DictEntry}{kvs:List (Str×Value)}(hp:Pairs (strKind prog w) es kvs):es.any (·.refKey)=false:=by
 induction hp with
 |nil=>rfl
 |@cons e kv es kvs h1 h2 _ ih=>rw[List.any_cons,ih,Bool.or_false];obtain⟨t,ht⟩:=(Uj (name:=kv.1) h1).2;unfold DictEntry.refKey;rw[ht]
theorem p7{es:List DictEntry}{kvs:List (Str×Value)}(hp:Pairs (strKind prog w) es kvs)(name:Str):getL name es=some (valueAt kvs name):=by
 have hf:(es.find? (·.key.isStr name)).map (·.val)=valueAt kvs name:=by
  induction hp with
  |nil=>rfl
  |@cons e kv es kvs h1 h2 _ ih=>
   unfold valueAt at ih ⊢;rw[List.find?_cons,List.find?_cons,(Uj h1).1];by_cases q:kv.1=name
   ·rw[decide_eq_true q];simp [h2]
   ·rw[decide_eq_false q];exact ih
 unfold getL;rw[<- hf];cases es.find? (·.key.isStr name)with
 |some e=>rfl
 |none=>rw[CE hp];rfl
end
noncomputable def Uk(name:Str)(v:Value):List (Str×Value)->List (Str×Value)
 |[]=>[(name,v)]
 |p::r=>if p.1=name then(p.1,v)::r else p::Uk name v r
theorem kr{name:Str}{v:Value}{p:Str×Value}{r:List (Str×Value)}(h:p.1=name):Uk name v (p::r)=(p.1,v)::r:=if_pos h
theorem jt{name:Str}{v:Value}{p:Str×Value}{r:List (Str×Value)}(h:p.1≠name):Uk name v (p::r)=p::Uk name v r:=if_neg h
theorem EV{name a:Str}{v:Value}{kvs:List (Str×Value)}(h:a∈(Uk name v kvs).map (·.1)):a=name\/a∈kvs.map (·.1):=by
 induction kvs with
 |nil=>exact .inl (List.mem_singleton.mp h)
 |cons p r ih=>
  by_cases q:p.1=name
  ·rw[kr q]at h;exact .inr h
  ·rw[jt q]at h;exact(List.mem_cons.mp h).elim (λe=>.inr (e▸.head _)) λm=>(ih m).imp id (.tail _)
theorem qy{name:Str}{v:Value}{kvs:List (Str×Value)}(h:(kvs.map (·.1)).Nodup):((Uk name v kvs).map (·.1)).Nodup:=by
 induction kvs with
 |nil=>exact List.nodup_cons.mpr ⟨List.not_mem_nil,.nil⟩
 |cons p r ih=>
  by_cases q:p.1=name
  ·rw[kr q];exact h
  ·rw[jt q];have h:=List.nodup_cons.mp h;exact List.nodup_cons.mpr ⟨λm=>(EV m).elim q h.1,ih h.2⟩
theorem o7{name:Str}{v:Value}{kvs:List (Str×Value)}(h:(kvs.map (·.1)).Nodup):stored kvs name v=Uk name v kvs:=by
 induction kvs with
 |nil=>rfl
 |cons p r ih=>
  have h:=List.nodup_cons.mp h;have ih:=ih h.2;unfold stored at ih ⊢;rw[List.any_cons];by_cases q:p.1=name
  ·rw[kr q,decide_eq_true q,Bool.true_or,if_pos rfl,List.map_cons,if_pos q,map_store_of_not_mem r name v (q▸h.1)]
  ·rw[jt q,decide_eq_false q,Bool.false_or,<- ih];by_cases z:r.any (λkv=>decide (kv.1=name))=true
   ·rw[if_pos z,if_pos z,List.map_cons,if_neg q]
   ·rw[if_neg z,if_neg z,List.cons_append]
section
variable{prog:Program}{w:World}
theorem xF{name:Str}{h:Int}{k v:Value}{e:DictEntry}{r:List DictEntry}(q:e.key.isStr name=true):putL name h k v (e::r)=⟨e.hash,e.key,v⟩::r:=if_pos q
theorem tT{name:Str}{h:Int}{k v:Value}{e:DictEntry}{r:List DictEntry}(q:e.key.isStr name=false):putL name h k v (e::r)=e::putL name h k v r:=if_neg (by rw[q];exact Bool.false_ne_true)
noncomputable def EW(prog:Program)(w:World)(es:List DictEntry):Prop:=∀e∈es,∃k,(strKind prog w).is k e.key=true/\e.hash=(strKind prog w).hash k
theorem Jf(name:Str)(t:Tok)(v:Value){es:List DictEntry}{kvs:List (Str×Value)}(hk:EW prog w es)(hp:Pairs (strKind prog w) es kvs):
  EW prog w (putL name (PyData.keyHash w.params name) (.str name t) v es)/\Pairs (strKind prog w) (putL name (PyData.keyHash w.params name) (.str name t) v es) (Uk name v kvs):=by
 induction hp with
 |nil=>have h1:(strKind prog w).is name (.str name t)=true:=beq_self_eq_true name;exact⟨λe he=>(List.mem_singleton.mp he).symm▸⟨name,h1,rfl⟩,.cons h1 rfl .nil⟩
 |@cons e kv es kvs h1 h2 r ih=>
  have ih:=ih λe' he=>hk e' (.tail _ he);have eq:e.key.isStr name=decide (kv.1=name):=(Uj h1).1;by_cases q:kv.1=name
  ·rw[xF (eq.trans (decide_eq_true q)),kr q];exact⟨List.forall_mem_cons.mpr ⟨hk e (.head _),λe' he=>hk e' (.tail _ he)⟩,.cons h1 rfl r⟩
  ·rw[tT (eq.trans (decide_eq_false q)),jt q];exact⟨List.forall_mem_cons.mpr ⟨hk e (.head _),ih.1⟩,.cons h1 h2 ih.2⟩
theorem xG(name:Str)(h:Int)(k v:Value)(es:List DictEntry):(putL name h k v es).length<=es.length+1:=by
 induction es with
 |nil=>exact Nat.le_refl _
 |cons e r ih=>
  cases q:e.key.isStr name with
  |true=>rw[xF q];exact Nat.le_succ _
  |false=>rw[tT q];exact Nat.succ_le_succ ih
end
theorem fW{α:Type}{p:S×α}{r:List (S×α)}{k:S}(h:p.1=k):SX (p::r) k=some p.2:=by
 show(match As p.1 k with|true=>some p.2|false=>SX r k)=_
 rw[cY.mpr h]
theorem dY{α:Type}{p:S×α}{r:List (S×α)}{k:S}(h:p.1≠k):SX (p::r) k=SX r k:=by
 show(match As p.1 k with|true=>some p.2|false=>SX r k)=_
 rw[mL.mpr h]
noncomputable def T7(l:List (S×V))(k:S)(v:V):List (S×V):=match l with
 |[]=>[(k,v)]
 |p::r=>match As p.1 k with
  |true=>(p.1,v)::r
  |false=>p::T7 r k v
theorem qz{p:S×V}{r:List (S×V)}{k:S}{v:V}(h:p.1=k):T7 (p::r) k v=(p.1,v)::r:=by
 show(match As p.1 k with|true=>(p.1,v)::r|false=>p::T7 r k v)=_
 rw[cY.mpr h]
theorem ou{p:S×V}{r:List (S×V)}{k:S}{v:V}(h:p.1≠k):T7 (p::r) k v=p::T7 r k v:=by
 show(match As p.1 k with|true=>(p.1,v)::r|false=>p::T7 r k v)=_
 rw[mL.mpr h]
theorem CG(l:List (S×V))(k:S)(v:V)(k':S):SX (T7 l k v) k'=if k'=k then some v else SX l k':=by
 induction l with
 |nil=>
  by_cases e:k'=k
  ·rw[if_pos e];exact fW (p:=(k,v)) e.symm
  ·rw[if_neg e];exact dY (p:=(k,v)) λz=>e z.symm
 |cons p r ih=>
  by_cases q:p.1=k
  ·rw[qz q];by_cases e:k'=k
   ·rw[if_pos e,fW (p:=(p.1,v)) (q.trans e.symm)]
   ·rw[if_neg e,dY (p:=(p.1,v)) (λz=>e (z.symm.trans q)),dY λz=>e (z.symm.trans q)]
  ·rw[ou q];by_cases z:p.1=k'
   ·rw[fW z,fW z,if_neg λy=>q (z.trans y)]
   ·rw[dY z,dY z,ih]
theorem CH(l:List (S×V))(k:S)(v:V):(T7 l k v).map (·.1)=match SX l k with|some _=>l.map (·.1)|none=>l.map (·.1)++[k]:=by
 induction l with
 |nil=>rfl
 |cons p r ih=>
  by_cases q:p.1=k
  ·rw[qz q,fW q];rfl
  ·rw[ou q,dY q,List.map_cons,ih];cases SX r k<;>rfl
theorem jv{p:S×Option V}{r:List (S×Option V)}{k:S}(h:p.1=k):S3 (p::r) k=p.2:=by unfold S3;rw[fW h];cases p.2<;>rfl
theorem gI{p:S×Option V}{r:List (S×Option V)}{k:S}(h:p.1≠k):S3 (p::r) k=S3 r k:=by unfold S3;rw[dY h]
theorem EY{p:S×Option V}{r:List (S×Option V)}{k:S}{v:V}(h:p.1=k):T5 (p::r) k v=some ((p.1,some v)::r):=by
 show(match As p.1 k with|true=>some ((p.1,some v)::r)|false=>match T5 r k v with|some r=>some (p::r)|none=>none)=_
 rw[cY.mpr h]
theorem CI{p:S×Option V}{r:List (S×Option V)}{k:S}{v:V}(h:p.1≠k):T5 (p::r) k v=(T5 r k v).map (p::·):=by
 show(match As p.1 k with|true=>some ((p.1,some v)::r)|false=>match T5 r k v with|some r=>some (p::r)|none=>none)=_
 rw[mL.mpr h];cases T5 r k v<;>rfl
noncomputable def up1(o:Option V)(n:Nat):Nat:=match o with
 |some _=>n
 |none=>n+1
theorem TL(a:S)(o:Option V)(r:List (S×Option V)):cnt ((a,o)::r)=match o with|some _=>cnt r+1|none=>cnt r:=by cases o<;>rfl
theorem CJ{tab:List (S×Option V)}{k:S}{v:V}:∀{t':List (S×Option V)},T5 tab k v=some t'->(∀k',S3 t' k'=if k'=k then some v else S3 tab k')/\t'.length=tab.length/\cnt t'=up1 (S3 tab k) (cnt tab):=by
 induction tab with
 |nil=>exactλh=>nomatch h
 |cons p r ih=>
  intro t' h;by_cases q:p.1=k
  ·rw[EY q]at h;rw[<- Option.some.inj h];refine⟨λk'=>?_,rfl,?_⟩
   ·by_cases e:k'=k
    ·rw[if_pos e,jv (p:=(p.1,some v)) (q.trans e.symm)]
    ·rw[if_neg e,gI (p:=(p.1,some v)) (λz=>e (z.symm.trans q)),gI λz=>e (z.symm.trans q)]
   ·rw[jv q,<- Prod.eta p,TL,TL];cases p.2<;>rfl
  ·rw[CI q]at h;obtain⟨r',z,rfl⟩:=Option.map_eq_some_iff.mp h;obtain⟨i1,i2,i3⟩:=ih z;refine⟨λk'=>?_,congrArg (·+1) i2,?_⟩
   ·by_cases e:p.1=k'
    ·rw[jv e,jv e,if_neg λy=>q (e.trans y)]
    ·rw[gI e,gI e,i1]
   ·rw[gI q,<- Prod.eta p,TL,TL,i3];cases p.2<;>cases S3 r k<;>rfl
theorem M7(t:List (S×Option V)):cnt t<=t.length:=by
 induction t with
 |nil=>exact Nat.le_refl _
 |cons p r ih=>
  rw[<- Prod.eta p,TL];cases p.2 with
  |none=>exact Nat.le_succ_of_le ih
  |some _=>exact Nat.succ_le_succ ih
theorem mQ.le{tab:List (S×Option V)}{l:List (S×V)}(h:mQ tab l):l.length<=100:=h.2.1▸Nat.le_trans (M7 tab) h.2.2
theorem Jg{tab t':List (S×Option V)}{l:List (S×V)}{k:S}{v:V}(h:mQ tab l)(e:T5 tab k v=some t'):mQ t' (T7 l k v)/\(T7 l k v).map (·.1)=EN tab (l.map (·.1)) k/\l.length<=100:=by
 obtain⟨e1,e2,e3⟩:=CJ e;have hl:=CH l k v;have ln:=congrArg List.length hl;rw[List.length_map]at ln;refine⟨⟨λk'=>by rw[e1,CG,h.1],?_,e2▸h.2.2⟩,?_,h.le⟩
 ·rw[ln,e3,h.1,h.2.1];cases SX l k with
  |none=>dsimp only;rw[List.length_append,List.length_map];rfl
  |some _=>dsimp only;rw[List.length_map];rfl
 ·rw[hl];show _=(match S3 tab k with|some _=>_|none=>_)
  rw[h.1];all_goals(cases SX l k<;>rfl)
section
variable{prog:Program}{w:World}{K:Frag}{γ γ':Ga}
theorem gR.put{k:S}{u:Value}{v:V}(hs:sok k=true)(r:RV prog w K γ u v){kvs:List (Str×Value)}{l:List (S×V)}(h:gR prog w K γ kvs l):gR prog w K γ (Uk (toS k) u kvs) (T7 l k v):=
 h.ind (P:=λkvs l=>gR prog w K γ (Uk (toS k) u kvs) (T7 l k v)) (.cons hs r .nil) λ{k₀ x y us l} hz h q ih=>by
  by_cases e:k₀=k
  ·rw[kr (congrArg toS e),qz e];exact .cons hz r q
  ·rw[jt λz=>e (mK z),ou e];exact .cons hz h ih
end
theorem ff{p:Prop}(h:false=true):p:=nomatch h
noncomputable def Tp(q:Const->Bool)(x:Expr):Bool:=by
 apply @Expr.casesOn (λ_=>Bool) x;case Constant=>exactλa b c=>q a
 all_goals first|exactλa b=>false|exactλa b c=>false|exactλa b c d=>false|exactλa b c d e=>false
@[elab_as_elim] theorem cO{q:Const->Bool}{G:Expr->Prop}{x:Expr}(h:Tp q x=true)(H:∀a b c,q a=true->G (.Constant a b c)):G x:=by
 refine(?_:Tp q x=true->G x) h;apply @Expr.casesOn (λx=>Tp q x=true->G x) x<;>first|exact H|exactλa b=>ff|exactλa b c=>ff|exactλa b c d=>ff|exactλa b c d e=>ff
noncomputable def S4(q:Str->Bool)(x:Expr):Bool:=by
 apply @Expr.casesOn (λ_=>Bool) x;case Name=>exactλa b=>q a
 all_goals first|exactλa b=>false|exactλa b c=>false|exactλa b c d=>false|exactλa b c d e=>false
@[elab_as_elim] theorem bI{q:Str->Bool}{G:Expr->Prop}{x:Expr}(h:S4 q x=true)(H:∀a b,q a=true->G (.Name a b)):G x:=by
 refine(?_:S4 q x=true->G x) h;apply @Expr.casesOn (λx=>S4 q x=true->G x) x<;>first|exact H|exactλa b=>ff|exactλa b c=>ff|exactλa b c d=>ff|exactλa b c d e=>ff
noncomputable def TS(q:(List Expr)->Bool)(x:Expr):Bool:=by
 apply @Expr.casesOn (λ_=>Bool) x;case Tuple=>exactλa b c=>q a
 all_goals first|exactλa b=>false|exactλa b c=>false|exactλa b c d=>false|exactλa b c d e=>false
@[elab_as_elim] theorem gX{q:(List Expr)->Bool}{G:Expr->Prop}{x:Expr}(h:TS q x=true)(H:∀a b c,q a=true->G (.Tuple a b c)):G x:=by
 refine(?_:TS q x=true->G x) h;apply @Expr.casesOn (λx=>TS q x=true->G x) x<;>first|exact H|exactλa b=>ff|exactλa b c=>ff|exactλa b c d=>ff|exactλa b c d e=>ff
noncomputable def UB(q:(List Expr)->Bool)(x:Expr):Bool:=by
 apply @Expr.casesOn (λ_=>Bool) x;case List=>exactλa b=>q a
 all_goals first|exactλa b=>false|exactλa b c=>false|exactλa b c d=>false|exactλa b c d e=>false
@[elab_as_elim] theorem ow{q:(List Expr)->Bool}{G:Expr->Prop}{x:Expr}(h:UB q x=true)(H:∀a b,q a=true->G (.List a b)):G x:=by
 refine(?_:UB q x=true->G x) h;apply @Expr.casesOn (λx=>UB q x=true->G x) x<;>first|exact H|exactλa b=>ff|exactλa b c=>ff|exactλa b c d=>ff|exactλa b c d e=>ff
noncomputable def UC(q:(List (Option Expr))->(List Expr)->Bool)(x:Expr):Bool:=by
 apply @Expr.casesOn (λ_=>Bool) x;case Dict=>exactλa b c=>q a b
 all_goals first|exactλa b=>false|exactλa b c=>false|exactλa b c d=>false|exactλa b c d e=>false
@[elab_as_elim] theorem oz{q:(List (Option Expr))->(List Expr)->Bool}{G:Expr->Prop}{x:Expr}(h:UC q x=true)(H:∀a b c,q a b=true->G (.Dict a b c)):G x:=by
 refine(?_:UC q x=true->G x) h;apply @Expr.casesOn (λx=>UC q x=true->G x) x<;>first|exact H|exactλa b=>ff|exactλa b c=>ff|exactλa b c d=>ff|exactλa b c d e=>ff
noncomputable def Ub(q:Expr->Str->Pos->Bool)(x:Expr):Bool:=by
 apply @Expr.casesOn (λ_=>Bool) x;case Attribute=>exactλa b c=>q a b c
 all_goals first|exactλa b=>false|exactλa b c=>false|exactλa b c d=>false|exactλa b c d e=>false
@[elab_as_elim] theorem jw{q:Expr->Str->Pos->Bool}{G:Expr->Prop}{x:Expr}(h:Ub q x=true)(H:∀a b c,q a b c=true->G (.Attribute a b c)):G x:=by
 refine(?_:Ub q x=true->G x) h;apply @Expr.casesOn (λx=>Ub q x=true->G x) x<;>first|exact H|exactλa b=>ff|exactλa b c=>ff|exactλa b c d=>ff|exactλa b c d e=>ff
noncomputable def Ut(q:Expr->Expr->Bool)(x:Expr):Bool:=by
 apply @Expr.casesOn (λ_=>Bool) x;case Subscript=>exactλa b c=>q a b
 all_goals first|exactλa b=>false|exactλa b c=>false|exactλa b c d=>false|exactλa b c d e=>false
@[elab_as_elim] theorem ku{q:Expr->Expr->Bool}{G:Expr->Prop}{x:Expr}(h:Ut q x=true)(H:∀a b c,q a b=true->G (.Subscript a b c)):G x:=by
 refine(?_:Ut q x=true->G x) h;apply @Expr.casesOn (λx=>Ut q x=true->G x) x<;>first|exact H|exactλa b=>ff|exactλa b c=>ff|exactλa b c d=>ff|exactλa b c d e=>ff
noncomputable def Ug(q:(Option Expr)->(Option Expr)->(Option Expr)->Bool)(x:Expr):Bool:=by
 apply @Expr.casesOn (λ_=>Bool) x;case Slice=>exactλa b c d=>q a b c
 all_goals first|exactλa b=>false|exactλa b c=>false|exactλa b c d=>false|exactλa b c d e=>false
@[elab_as_elim] theorem zY{q:(Option Expr)->(Option Expr)->(Option Expr)->Bool}{G:Expr->Prop}{x:Expr}(h:Ug q x=true)(H:∀a b c d,q a b c=true->G (.Slice a b c d)):G x:=by
 refine(?_:Ug q x=true->G x) h;apply @Expr.casesOn (λx=>Ug q x=true->G x) x<;>first|exact H|exactλa b=>ff|exactλa b c=>ff|exactλa b c d=>ff|exactλa b c d e=>ff
noncomputable def UK(q:Expr->Operator->Expr->Bool)(x:Expr):Bool:=by
 apply @Expr.casesOn (λ_=>Bool) x;case BinOp=>exactλa b c d=>q a b c
 all_goals first|exactλa b=>false|exactλa b c=>false|exactλa b c d=>false|exactλa b c d e=>false
@[elab_as_elim] theorem mU{q:Expr->Operator->Expr->Bool}{G:Expr->Prop}{x:Expr}(h:UK q x=true)(H:∀a b c d,q a b c=true->G (.BinOp a b c d)):G x:=by
 refine(?_:UK q x=true->G x) h;apply @Expr.casesOn (λx=>UK q x=true->G x) x<;>first|exact H|exactλa b=>ff|exactλa b c=>ff|exactλa b c d=>ff|exactλa b c d e=>ff
noncomputable def U4(q:UnaryOp->Expr->Bool)(x:Expr):Bool:=by
 apply @Expr.casesOn (λ_=>Bool) x;case UnaryOp=>exactλa b c=>q a b
 all_goals first|exactλa b=>false|exactλa b c=>false|exactλa b c d=>false|exactλa b c d e=>false
@[elab_as_elim] theorem mV{q:UnaryOp->Expr->Bool}{G:Expr->Prop}{x:Expr}(h:U4 q x=true)(H:∀a b c,q a b=true->G (.UnaryOp a b c)):G x:=by
 refine(?_:U4 q x=true->G x) h;apply @Expr.casesOn (λx=>U4 q x=true->G x) x<;>first|exact H|exactλa b=>ff|exactλa b c=>ff|exactλa b c d=>ff|exactλa b c d e=>ff
noncomputable def Ul(q:BoolOp->(List Expr)->Bool)(x:Expr):Bool:=by
 apply @Expr.casesOn (λ_=>Bool) x;case BoolOp=>exactλa b c=>q a b
 all_goals first|exactλa b=>false|exactλa b c=>false|exactλa b c d=>false|exactλa b c d e=>false
@[elab_as_elim] theorem jx{q:BoolOp->(List Expr)->Bool}{G:Expr->Prop}{x:Expr}(h:Ul q x=true)(H:∀a b c,q a b=true->G (.BoolOp a b c)):G x:=by
 refine(?_:Ul q x=true->G x) h;apply @Expr.casesOn (λx=>Ul q x=true->G x) x<;>first|exact H|exactλa b=>ff|exactλa b c=>ff|exactλa b c d=>ff|exactλa b c d e=>ff
noncomputable def Vt(q:Expr->Expr->Expr->Bool)(x:Expr):Bool:=by
 apply @Expr.casesOn (λ_=>Bool) x;case IfExp=>exactλa b c d=>q a b c
 all_goals first|exactλa b=>false|exactλa b c=>false|exactλa b c d=>false|exactλa b c d e=>false
@[elab_as_elim] theorem vG{q:Expr->Expr->Expr->Bool}{G:Expr->Prop}{x:Expr}(h:Vt q x=true)(H:∀a b c d,q a b c=true->G (.IfExp a b c d)):G x:=by
 refine(?_:Vt q x=true->G x) h;apply @Expr.casesOn (λx=>Vt q x=true->G x) x<;>first|exact H|exactλa b=>ff|exactλa b c=>ff|exactλa b c d=>ff|exactλa b c d e=>ff
noncomputable def Uu(q:Expr->(List CmpOp)->(List Expr)->Bool)(x:Expr):Bool:=by
 apply @Expr.casesOn (λ_=>Bool) x;case Compare=>exactλa b c d=>q a b c
 all_goals first|exactλa b=>false|exactλa b c=>false|exactλa b c d=>false|exactλa b c d e=>false
@[elab_as_elim] theorem jy{q:Expr->(List CmpOp)->(List Expr)->Bool}{G:Expr->Prop}{x:Expr}(h:Uu q x=true)(H:∀a b c d,q a b c=true->G (.Compare a b c d)):G x:=by
 refine(?_:Uu q x=true->G x) h;apply @Expr.casesOn (λx=>Uu q x=true->G x) x<;>first|exact H|exactλa b=>ff|exactλa b c=>ff|exactλa b c d=>ff|exactλa b c d e=>ff
noncomputable def TM(q:Expr->(List Expr)->(List Keyword)->Pos->Bool)(x:Expr):Bool:=by
 apply @Expr.casesOn (λ_=>Bool) x;case Call=>exactλa b c d=>q a b c d
 all_goals first|exactλa b=>false|exactλa b c=>false|exactλa b c d=>false|exactλa b c d e=>false
@[elab_as_elim] theorem iD{q:Expr->(List Expr)->(List Keyword)->Pos->Bool}{G:Expr->Prop}{x:Expr}(h:TM q x=true)(H:∀a b c d,q a b c d=true->G (.Call a b c d)):G x:=by
 refine(?_:TM q x=true->G x) h;apply @Expr.casesOn (λx=>TM q x=true->G x) x<;>first|exact H|exactλa b=>ff|exactλa b c=>ff|exactλa b c d=>ff|exactλa b c d e=>ff
noncomputable def UD(q:Expr->(List Comprehension)->Scope->Bool)(x:Expr):Bool:=by
 apply @Expr.casesOn (λ_=>Bool) x;case ListComp=>exactλa b c d=>q a b c
 all_goals first|exactλa b=>false|exactλa b c=>false|exactλa b c d=>false|exactλa b c d e=>false
@[elab_as_elim] theorem oA{q:Expr->(List Comprehension)->Scope->Bool}{G:Expr->Prop}{x:Expr}(h:UD q x=true)(H:∀a b c d,q a b c=true->G (.ListComp a b c d)):G x:=by
 refine(?_:UD q x=true->G x) h;apply @Expr.casesOn (λx=>UD q x=true->G x) x<;>first|exact H|exactλa b=>ff|exactλa b c=>ff|exactλa b c d=>ff|exactλa b c d e=>ff
noncomputable def UR(q:Expr->Bool)(x:Stmt):Bool:=by
 apply @Stmt.casesOn (λ_=>Bool) x;case Expr=>exactλa b=>q a
 all_goals first|exactλa=>false|exactλa b=>false|exactλa b c=>false|exactλa b c d=>false|exactλa b c d e=>false|exactλa b c d e f g=>false|exactλa b c d e f g h i j=>false|exactλa b c d e f g h i j k=>false
@[elab_as_elim] theorem EZ{q:Expr->Bool}{G:Stmt->Prop}{x:Stmt}(h:UR q x=true)(H:∀a b,q a=true->G (.Expr a b)):G x:=by
 refine(?_:UR q x=true->G x) h;apply @Stmt.casesOn (λx=>UR q x=true->G x) x<;>first|exact H|exactλa=>ff|exactλa b=>ff|exactλa b c=>ff|exactλa b c d=>ff|exactλa b c d e=>ff|exactλa b c d e f g=>ff|exactλa b c d e f g h i j=>ff|exactλa b c d e f g h i j k=>ff
noncomputable def UP(q:(List Expr)->Expr->Bool)(x:Stmt):Bool:=by
 apply @Stmt.casesOn (λ_=>Bool) x;case Assign=>exactλa b c=>q a b
 all_goals first|exactλa=>false|exactλa b=>false|exactλa b c=>false|exactλa b c d=>false|exactλa b c d e=>false|exactλa b c d e f g=>false|exactλa b c d e f g h i j=>false|exactλa b c d e f g h i j k=>false
@[elab_as_elim] theorem p8{q:(List Expr)->Expr->Bool}{G:Stmt->Prop}{x:Stmt}(h:UP q x=true)(H:∀a b c,q a b=true->G (.Assign a b c)):G x:=by
 refine(?_:UP q x=true->G x) h;apply @Stmt.casesOn (λx=>UP q x=true->G x) x<;>first|exact H|exactλa=>ff|exactλa b=>ff|exactλa b c=>ff|exactλa b c d=>ff|exactλa b c d e=>ff|exactλa b c d e f g=>ff|exactλa b c d e f g h i j=>ff|exactλa b c d e f g h i j k=>ff
noncomputable def Vu(q:Expr->Operator->Expr->Bool)(x:Stmt):Bool:=by
 apply @Stmt.casesOn (λ_=>Bool) x;case AugAssign=>exactλa b c d=>q a b c
 all_goals first|exactλa=>false|exactλa b=>false|exactλa b c=>false|exactλa b c d=>false|exactλa b c d e=>false|exactλa b c d e f g=>false|exactλa b c d e f g h i j=>false|exactλa b c d e f g h i j k=>false
@[elab_as_elim] theorem Jh{q:Expr->Operator->Expr->Bool}{G:Stmt->Prop}{x:Stmt}(h:Vu q x=true)(H:∀a b c d,q a b c=true->G (.AugAssign a b c d)):G x:=by
 refine(?_:Vu q x=true->G x) h;apply @Stmt.casesOn (λx=>Vu q x=true->G x) x<;>first|exact H|exactλa=>ff|exactλa b=>ff|exactλa b c=>ff|exactλa b c d=>ff|exactλa b c d e=>ff|exactλa b c d e f g=>ff|exactλa b c d e f g h i j=>ff|exactλa b c d e f g h i j k=>ff
noncomputable def sIf(q:Expr->(List Stmt)->(List Stmt)->Bool)(x:Stmt):Bool:=by
 apply @Stmt.casesOn (λ_=>Bool) x;case If=>exactλa b c d=>q a b c
 all_goals first|exactλa=>false|exactλa b=>false|exactλa b c=>false|exactλa b c d=>false|exactλa b c d e=>false|exactλa b c d e f g=>false|exactλa b c d e f g h i j=>false|exactλa b c d e f g h i j k=>false
@[elab_as_elim] theorem M8{q:Expr->(List Stmt)->(List Stmt)->Bool}{G:Stmt->Prop}{x:Stmt}(h:sIf q x=true)(H:∀a b c d,q a b c=true->G (.If a b c d)):G x:=by
 refine(?_:sIf q x=true->G x) h;apply @Stmt.casesOn (λx=>sIf q x=true->G x) x<;>first|exact H|exactλa=>ff|exactλa b=>ff|exactλa b c=>ff|exactλa b c d=>ff|exactλa b c d e=>ff|exactλa b c d e f g=>ff|exactλa b c d e f g h i j=>ff|exactλa b c d e f g h i j k=>ff
noncomputable def U9(q:Expr->Expr->(List Stmt)->(List Stmt)->Bool)(x:Stmt):Bool:=by
 apply @Stmt.casesOn (λ_=>Bool) x;case For=>exactλa b c d e=>q a b c d
 all_goals first|exactλa=>false|exactλa b=>false|exactλa b c=>false|exactλa b c d=>false|exactλa b c d e=>false|exactλa b c d e f g=>false|exactλa b c d e f g h i j=>false|exactλa b c d e f g h i j k=>false
@[elab_as_elim] theorem Bl{q:Expr->Expr->(List Stmt)->(List Stmt)->Bool}{G:Stmt->Prop}{x:Stmt}(h:U9 q x=true)(H:∀a b c d e,q a b c d=true->G (.For a b c d e)):G x:=by
 refine(?_:U9 q x=true->G x) h;apply @Stmt.casesOn (λx=>U9 q x=true->G x) x<;>first|exact H|exactλa=>ff|exactλa b=>ff|exactλa b c=>ff|exactλa b c d=>ff|exactλa b c d e=>ff|exactλa b c d e f g=>ff|exactλa b c d e f g h i j=>ff|exactλa b c d e f g h i j k=>ff
noncomputable def Vv(q:Expr->(List Stmt)->(List Stmt)->Bool)(x:Stmt):Bool:=by
 apply @Stmt.casesOn (λ_=>Bool) x;case While=>exactλa b c d=>q a b c
 all_goals first|exactλa=>false|exactλa b=>false|exactλa b c=>false|exactλa b c d=>false|exactλa b c d e=>false|exactλa b c d e f g=>false|exactλa b c d e f g h i j=>false|exactλa b c d e f g h i j k=>false
@[elab_as_elim] theorem Ji{q:Expr->(List Stmt)->(List Stmt)->Bool}{G:Stmt->Prop}{x:Stmt}(h:Vv q x=true)(H:∀a b c d,q a b c=true->G (.While a b c d)):G x:=by
 refine(?_:Vv q x=true->G x) h;apply @Stmt.casesOn (λx=>Vv q x=true->G x) x<;>first|exact H|exactλa=>ff|exactλa b=>ff|exactλa b c=>ff|exactλa b c d=>ff|exactλa b c d e=>ff|exactλa b c d e f g=>ff|exactλa b c d e f g h i j=>ff|exactλa b c d e f g h i j k=>ff
noncomputable def Va(q:(Option Expr)->Bool)(x:Stmt):Bool:=by
 apply @Stmt.casesOn (λ_=>Bool) x;case Return=>exactλa b=>q a
 all_goals first|exactλa=>false|exactλa b=>false|exactλa b c=>false|exactλa b c d=>false|exactλa b c d e=>false|exactλa b c d e f g=>false|exactλa b c d e f g h i j=>false|exactλa b c d e f g h i j k=>false
@[elab_as_elim] theorem Bm{q:(Option Expr)->Bool}{G:Stmt->Prop}{x:Stmt}(h:Va q x=true)(H:∀a b,q a=true->G (.Return a b)):G x:=by
 refine(?_:Va q x=true->G x) h;apply @Stmt.casesOn (λx=>Va q x=true->G x) x<;>first|exact H|exactλa=>ff|exactλa b=>ff|exactλa b c=>ff|exactλa b c d=>ff|exactλa b c d e=>ff|exactλa b c d e f g=>ff|exactλa b c d e f g h i j=>ff|exactλa b c d e f g h i j k=>ff
noncomputable def Vw(q:(Option Expr)->(Option Expr)->Bool)(x:Stmt):Bool:=by
 apply @Stmt.casesOn (λ_=>Bool) x;case Raise=>exactλa b c=>q a b
 all_goals first|exactλa=>false|exactλa b=>false|exactλa b c=>false|exactλa b c d=>false|exactλa b c d e=>false|exactλa b c d e f g=>false|exactλa b c d e f g h i j=>false|exactλa b c d e f g h i j k=>false
@[elab_as_elim] theorem Jj{q:(Option Expr)->(Option Expr)->Bool}{G:Stmt->Prop}{x:Stmt}(h:Vw q x=true)(H:∀a b c,q a b=true->G (.Raise a b c)):G x:=by
 refine(?_:Vw q x=true->G x) h;apply @Stmt.casesOn (λx=>Vw q x=true->G x) x<;>first|exact H|exactλa=>ff|exactλa b=>ff|exactλa b c=>ff|exactλa b c d=>ff|exactλa b c d e=>ff|exactλa b c d e f g=>ff|exactλa b c d e f g h i j=>ff|exactλa b c d e f g h i j k=>ff
noncomputable def Vx(q:(List Stmt)->(List ExceptHandler)->(List Stmt)->(List Stmt)->Bool)(x:Stmt):Bool:=by
 apply @Stmt.casesOn (λ_=>Bool) x;case Try=>exactλa b c d e=>q a b c d
 all_goals first|exactλa=>false|exactλa b=>false|exactλa b c=>false|exactλa b c d=>false|exactλa b c d e=>false|exactλa b c d e f g=>false|exactλa b c d e f g h i j=>false|exactλa b c d e f g h i j k=>false
@[elab_as_elim] theorem Jk{q:(List Stmt)->(List ExceptHandler)->(List Stmt)->(List Stmt)->Bool}{G:Stmt->Prop}{x:Stmt}(h:Vx q x=true)(H:∀a b c d e,q a b c d=true->G (.Try a b c d e)):G x:=by
 refine(?_:Vx q x=true->G x) h;apply @Stmt.casesOn (λx=>Vx q x=true->G x) x<;>first|exact H|exactλa=>ff|exactλa b=>ff|exactλa b c=>ff|exactλa b c d=>ff|exactλa b c d e=>ff|exactλa b c d e f g=>ff|exactλa b c d e f g h i j=>ff|exactλa b c d e f g h i j k=>ff
noncomputable def US(x:Stmt):Bool:=by
 apply @Stmt.casesOn (λ_=>Bool) x;case Continue=>exactλa=>true
 all_goals first|exactλa=>false|exactλa b=>false|exactλa b c=>false|exactλa b c d=>false|exactλa b c d e=>false|exactλa b c d e f g=>false|exactλa b c d e f g h i j=>false|exactλa b c d e f g h i j k=>false
@[elab_as_elim] theorem E0{G:Stmt->Prop}{x:Stmt}(h:US x=true)(H:∀a,G (.Continue a)):G x:=by
 refine(?_:US x=true->G x) h;apply @Stmt.casesOn (λx=>US x=true->G x) x<;>first|exactλa _=>H a|exactλa=>ff|exactλa b=>ff|exactλa b c=>ff|exactλa b c d=>ff|exactλa b c d e=>ff|exactλa b c d e f g=>ff|exactλa b c d e f g h i j=>ff|exactλa b c d e f g h i j k=>ff
section
variable{prog:Program}{w:World}{K:Frag}{γ:Ga}
inductive Jl(prog:Program)(w:World)(K:Frag)(γ:Ga)(u:Value)(l:List V)(ob:List Value->Nat->Obj):Prop
 |mk (a:Addr) (vs:List Value) (n:Nat) (e:u=.ref a) (h:At K γ a (ob vs n)) (r:cH prog w K γ vs l) (z:l.length<=1000000)
inductive O4(prog:Program)(w:World)(K:Frag)(γ:Ga)(u:Value)(l:List (S×V)):Prop
 |mk (a:Addr) (o:Obj) (kvs:List (Str×Value)) (e:u=.ref a) (h:(a,o)∈γ.news) (m:a∉γ.mut) (d:o.IsDictOf (strKind prog w) kvs) (r:gR prog w K γ kvs l) (z:l.length<=100)
inductive O5(K:Frag)(γ:Ga)(u:Value)(C d:Nat):Prop
 |mk (x dx:Addr) (e:u=.ref x) (r:γ.rho.lookup d=some dx) (h:At K γ x (instObj C dx))
inductive Jm(u:Value)(p:Addr->Prop):Prop
 |mk (a:Addr) (e:u=.ref a) (h:p a)
noncomputable def RH(prog:Program)(w:World)(K:Frag)(γ:Ga)(u:Value):V->Prop
 | .none=>u=.none
 | .bool b=>u=.bool b
 | .int i=>∃t,u=.int i t
 | .str s=>∃t,u=.str (toS s) t/\sok s=true
 | .tup l=>Jl prog w K γ u l iJ
 | .lst l=>Jl prog w K γ u l λvs=>listOf (List.toArray vs)
 | .dct l=>O4 prog w K γ u l
 | .inst C d=>O5 K γ u C d
 | .ref i=>Jm u λa=>γ.rho.lookup i=some a
 | .fn a=>u=.ref a
 | .jl=>Jm u λa=>a∈γ.jun
theorem RV.inv{u:Value}{x:V}(h:RV prog w K γ u x):RH prog w K γ u x:=
 RV.casesOn (motive_1:=λu x _=>RH prog w K γ u x) h rfl (λ_=>rfl) (λ_ t=>⟨t,rfl⟩) (λ_ t h=>⟨t,rfl,h⟩) (λh r z=>⟨_,_,_,rfl,h,r,z⟩) (λh r z=>⟨_,_,_,rfl,h,r,z⟩) (λh m d r z=>⟨_,_,_,rfl,h,m,d,r,z⟩)
  (λh k=>⟨_,_,rfl,h,k⟩) (λh=>⟨_,rfl,h⟩) (λ_=>rfl) (λh=>⟨_,rfl,h⟩)
theorem RV.int_inv{u:Value}{i:Int}(h:RV prog w K γ u (.int i)):∃t,u=.int i t:=h.inv
theorem RV.bool_inv{u:Value}{b:Bool}(h:RV prog w K γ u (.bool b)):u=.bool b:=h.inv
theorem RV.none_inv{u:Value}(h:RV prog w K γ u .none):u=.none:=h.inv
theorem RV.str_inv{u:Value}{s:S}(h:RV prog w K γ u (.str s)):∃t,u=.str (toS s) t/\sok s=true:=h.inv
theorem RV.fB{u:Value}{l:List V}(h:RV prog w K γ u (.tup l)):Jl prog w K γ u l iJ:=h.inv
theorem RV.lst_inv{u:Value}{l:List V}(h:RV prog w K γ u (.lst l)):Jl prog w K γ u l λvs=>listOf (List.toArray vs):=h.inv
theorem RV.lz{u:Value}{l:List (S×V)}(h:RV prog w K γ u (.dct l)):O4 prog w K γ u l:=h.inv
theorem RV.qA{u:Value}{C d:Nat}(h:RV prog w K γ u (.inst C d)):O5 K γ u C d:=h.inv
theorem RV.fC{u:Value}{i:Nat}(h:RV prog w K γ u (.ref i)):Jm u λa=>γ.rho.lookup i=some a:=h.inv
theorem RV.zZ{u:Value}{a:Nat}(h:RV prog w K γ u (.fn a)):u=.ref a:=h.inv
theorem RV.E1{u:Value}(h:RV prog w K γ u .jl):Jm u λa=>a∈γ.jun:=h.inv
theorem cH.nil_inv{us:List Value}(h:cH prog w K γ us []):us=[]:=List.eq_nil_of_length_eq_zero h.length
noncomputable def QX(prog:Program)(w:World)(K:Frag)(γ:Ga)(us:List Value):List V->Prop
 |[]=>True
 |x::l=>∃u vs,us=u::vs/\RV prog w K γ u x/\cH prog w K γ vs l
theorem cH.cons_inv{us:List Value}{x:V}{l:List V}(h:cH prog w K γ us (x::l)):∃u vs,us=u::vs/\RV prog w K γ u x/\cH prog w K γ vs l:=
 h.ind (P:=QX prog w K γ) trivial λh r _=>⟨_,_,rfl,h,r⟩
end
structure Cx where
 prog:Program
 w:World
 K:Frag
 C:Cfg
 CF:Addr
 p:Program
 loose:List Str
 mean:ExcName->Option Value
 mg:Str->Option Value
 mb:Str->Option Value
 sl:Nat
structure Fm where
 A:Around
 A₀:Around
 base:Heap
 outer:List Env
 h₀:Heap
 L:Addr
 name:Str
 scope:Scope
 fa:Addr
 cd:Value
 cl:List (Str×Addr)
@[reducible] def Fm.env(f:Fm):Env:=envX f.name f.scope f.L f.fa f.cd f.cl
abbrev Cx.M(X:Cx):Model:=model X.prog X.w
abbrev Cx.RV(X:Cx):=Mine.RV X.prog X.w X.K
abbrev Cx.cH(X:Cx):=Mine.cH X.prog X.w X.K
abbrev Cx.gR(X:Cx):=Mine.gR X.prog X.w X.K
abbrev Cx.At(X:Cx):=Mine.At X.K
abbrev Cx.gq(X:Cx):=Mine.gq X.prog X.w X.K
abbrev Cx.Ls(X:Cx)(f:Fm):=Mine.Ls X.prog X.w X.K f.cl
structure bB(X:Cx)(f:Fm)(n:Nat):Prop where
 B:Below f.A₀ f.base f.outer f.h₀
 fr:f.A.frames=some (f.env::f.outer)
 X₀:X.K.In f.h₀
 T:Top X.p X.loose X.mean X.mg X.mb f.h₀
 hh:f.A.handled=none
 kind:f.scope.kind=.function
 kl:∀y,f.scope.names.lookup y=some .local->f.cl.lookup y=none
 kc:∀y,f.scope.names.lookup y=some .cell->∃c,f.cl.lookup y=some c
 cn:(∀y∈f.scope.names,y.2≠.cell)->f.cl=[]
 dp:f.A.depth+3 * (n+X.sl) < recursionLimit
 un:f.A.units+40 * (n+X.sl)+100 < cLine
theorem bB.low{X:Cx}{f:Fm}{n m:Nat}(h:bB X f n)(hm:m<=n):bB X f m:=
 {h with dp:=Nat.lt_of_le_of_lt (Nat.add_le_add_left (Nat.mul_le_mul_left 3 (Nat.add_le_add_right hm _)) _) h.dp,un:=Nat.lt_of_le_of_lt (Nat.add_le_add_right (Nat.add_le_add_left (Nat.mul_le_mul_left 40 (Nat.add_le_add_right hm _)) _) _) h.un}
structure vH(X:Cx)(f:Fm)(m:Str->Option Value)(E:Value->Shared->Prop)(Ψ:Prop)(s:Shared):Prop where
 MU:PassesOwn X.M f.A f.env E
 EA:Ψ->∀e a0 g₂ h' tk,Fr f.h₀ f.L g₂ m->g₂.UpToSlots h'->Heap.FlyingW f.base (f.env::f.outer) e (.ref X.CF) a0 h'->E (.ref e) {s with heap:=h',toks:=tk}
theorem vH.at{X:Cx}{f:Fm}{m:Str->Option Value}{E:Value->Shared->Prop}{Ψ:Prop}{s:Shared}(h:vH X f m E Ψ s)(h':Heap)(tk:Nat):vH X f m E Ψ {s with heap:=h',toks:=tk}:=⟨h.MU,h.EA⟩
structure aO(X:Cx)(f:Fm)(m:Str->Option Value)(γ:Ga)(g:G)(h:Heap):Prop where
 F:Fr f.h₀ f.L h m
 N:News f.h₀ f.L h γ.news
 gk:X.gq γ g
noncomputable def dh(X:Cx)(f:Fm)(m:Str->Option Value){α β:Type}(rel:Ga->β->α->Prop)(t:R α)(sem:Sem β)(γ:Ga)(s:Shared):Prop:=
 ∀(Φ:α->G->Prop)(Ψ:Prop)(Q:β->Shared->Prop)(E:Value->Shared->Prop),t.All Φ Ψ->vH X f m E Ψ s->
  (∀a g' γ' b h' tk,Φ a g'->Ext γ γ'->aO X f m γ' g' h'->rel γ' b a->Q b {s with heap:=h',toks:=tk})->wpAny X.M f.A sem Q E s
noncomputable def eu(sc:Scope)(x:Str):Bool:=sc.names.lookup x==some .local&&x != ("__debug__":Str)
noncomputable def E2(sc:Scope)(x:Str):Bool:=sc.names.lookup x==some .cell&&x != ("__debug__":Str)
noncomputable def b7(sc:Scope)(x:Str):Bool:=sc.names.lookup x==some .globalImplicit&&x != ("__debug__":Str)
noncomputable def Tq{α:Type}:List α->Bool
 |[]=>true
 |_=>false
noncomputable def Tu(e:Expr):Bool:=!Nat.beq e.ctorIdx 22
noncomputable def jz(e:Expr):Bool:=!TM (λf l w _=>S4 (λ_=>true) f&&(Tq l&&Tq w)) e
noncomputable def qB(e:Expr):Bool:=!Nat.beq e.ctorIdx 26
noncomputable def eS(e:Expr):Bool:=!(Nat.beq e.ctorIdx 8||(Nat.beq e.ctorIdx 9||Nat.beq e.ctorIdx 10))
noncomputable def O6:Nat->Operator
 |0=>.Add|1=>.Sub|2=>.Mult|3=>.FloorDiv|4=>.Mod|_=>.LShift
noncomputable def CK(n:Nat)(o:Operator):Bool:=Nat.ble n 5&&Nat.beq o.ctorIdx (O6 n).ctorIdx
noncomputable def M9:Nat->CmpOp
 |0=>.Eq|1=>.NotEq|2=>.Lt|3=>.LtE|4=>.Gt|5=>.GtE|6=>.Is|7=>.IsNot|8=>.In|_=>.NotIn
noncomputable def lU(n:Nat)(o:CmpOp):Bool:=Nat.ble n 9&&Nat.beq o.ctorIdx (M9 n).ctorIdx
noncomputable def BY{α β:Type}(c:α->β->Bool):List α->List β->Bool
 |[],[]=>true
 |a::x,b::y=>c a b&&BY c x y
 |_,_=>false
noncomputable def E3{α β:Type}(c:α->β->Bool):Option α->Option β->Bool
 |none,none=>true
 |some a,some b=>c a b
 |_,_=>false
noncomputable def Vb(x:Const):Bool:=@Const.casesOn (λ_=>Bool) x true (λa=>false) (λa=>false) (λa=>false) (λa b=>false) (λa=>false) (λa=>false) false
noncomputable def Vc(b:Bool)(x:Const):Bool:=@Const.casesOn (λ_=>Bool) x false (λc=>b==c) (λa=>false) (λa=>false) (λa b=>false) (λa=>false) (λa=>false) false
noncomputable def VT(i:Int)(x:Const):Bool:=@Const.casesOn (λ_=>Bool) x false (λa=>false) (λj=>decide (i=j)) (λa=>false) (λa b=>false) (λa=>false) (λa=>false) false
noncomputable def UT(q:Str->Bool)(x:Const):Bool:=@Const.casesOn (λ_=>Bool) x false (λa=>false) (λa=>false) (λa=>false) (λa b=>false) q (λa=>false) false
noncomputable def V0(s:S):Const->Bool:=UT λt=>toS s==t&&sok s
noncomputable def VI(s:S):Const->Bool:=UT λt=>toS s==t
noncomputable def VJ(o:Operator):Bool:=Nat.beq o.ctorIdx Operator.Mult.ctorIdx
noncomputable def V1:UnaryOp->Bool
 | .USub=>true
 |_=>false
noncomputable def VU:UnaryOp->Bool
 | .Not=>true
 |_=>false
noncomputable def V2:BoolOp->Bool
 | .And=>true
 |_=>false
noncomputable def bOr:BoolOp->Bool
 | .Or=>true
 |_=>false
noncomputable def Na(k:S):Expr->Bool:=Tp (VI k)
noncomputable def TU:ME->Bool
 | .glob _=>true
 | .str _=>true
 | .int _=>true
 |_=>false
noncomputable def UE:List S->Bool
 |[]=>true
 |k::r=>!r.any (As k)&&UE r
noncomputable def TN(K:Frag)(C:Cfg)(a:S):Bool:=C.ct.all λc=>findIn K (.ref c.1) (toS a)==some none
noncomputable def TF(sc:Scope)(b:Str):Bool:=
 sc.names.all (λy=>y.2 != .cell&&y.2 != .free&&(y.2 != .local||sc.names.lookup y.1==some .local))&&sc.kind==.function&&sc.names.lookup b==some .local&&b != ("__debug__":Str)
noncomputable def mW(cs:List S)(ts:List Expr):Bool:=BY (λk e=>Na k e&&sok k) cs ts
noncomputable def one{α:Type}(q:α->Bool):List α->Bool
 |[a]=>q a
 |_=>false
noncomputable def two{α:Type}(q:α->α->Bool):List α->Bool
 |[a,b]=>q a b
 |_=>false
@[elab_as_elim] theorem dZ{α:Type}{q:α->Bool}{G:List α->Prop}{l:List α}(h:one q l=true)(H:∀a,q a=true->G [a]):G l:=match l,h with
 |[],h=>ff h
 |[a],h=>H a h
 |_::_::_,h=>ff h
@[elab_as_elim] theorem Uc{α:Type}{q:α->α->Bool}{G:List α->Prop}{l:List α}(h:two q l=true)(H:∀a b,q a b=true->G [a,b]):G l:=match l,h with
 |[],h=>ff h
 |[_],h=>ff h
 |[a,b],h=>H a b h
 |_::_::_::_,h=>ff h
@[elab_as_elim] theorem fz{α:Type}{G:List α->Prop}{l:List α}(h:Tq l=true)(H:G []):G l:=match l,h with
 |[],_=>H
 |_::_,h=>ff h
theorem CL{α:Type}{l:List α}(h:Tq l=true):l=[]:=fz (G:=λl=>l=[]) h rfl
noncomputable def Vd{α:Type}:Option α->Bool
 |none=>true
 |_=>false
@[elab_as_elim] theorem p9{α:Type}{G:Option α->Prop}{l:Option α}(h:Vd l=true)(H:G none):G l:=match l,h with
 |none,_=>H
 |some _,h=>ff h
theorem O7{α:Type}{l:Option α}(h:Vd l=true):l=none:=p9 (G:=λl=>l=none) h rfl
noncomputable def Vy{α:Type}(q:α->Bool):Option α->Bool
 |some a=>q a
 |none=>false
@[elab_as_elim] theorem vI{α:Type}{q:α->Bool}{G:Option α->Prop}{l:Option α}(h:Vy q l=true)(H:∀a,q a=true->G (some a)):G l:=match l,h with
 |some a,h=>H a h
 |none,h=>ff h
@[elab_as_elim] theorem z0{α:Type} [BEq α] [LawfulBEq α] {a b:α} {G:α->Prop} (h:(a==b)=true) (H:G a):G b:=eq_of_beq h▸H
@[elab_as_elim] theorem E4{G:Const->Prop}{x:Const}(h:Vb x=true)(H:G .none):G x:=@Const.casesOn (λx=>Vb x=true->G x) x (λ_=>H) (λa=>ff) (λa=>ff) (λa=>ff) (λa b=>ff) (λa=>ff) (λa=>ff) ff h
@[elab_as_elim] theorem E5{b:Bool}{G:Const->Prop}{x:Const}(h:Vc b x=true)(H:G (.bool b)):G x:=@Const.casesOn (λx=>Vc b x=true->G x) x ff (λc h=>z0 (G:=λc=>G (.bool c)) h H) (λa=>ff) (λa=>ff) (λa b=>ff) (λa=>ff) (λa=>ff) ff h
@[elab_as_elim] theorem Bo{i:Int}{G:Const->Prop}{x:Const}(h:VT i x=true)(H:G (.int i)):G x:=@Const.casesOn (λx=>VT i x=true->G x) x ff (λa=>ff) (λj h=>(of_decide_eq_true h).rec (motive:=λj _=>G (.int j)) H) (λa=>ff) (λa b=>ff) (λa=>ff) (λa=>ff) ff h
@[elab_as_elim] theorem kB{q:Str->Bool}{G:Const->Prop}{x:Const}(h:UT q x=true)(H:∀t,q t=true->G (.str t)):G x:=@Const.casesOn (λx=>UT q x=true->G x) x ff (λa=>ff) (λa=>ff) (λa=>ff) (λa b=>ff) H (λa=>ff) ff h
noncomputable def Wg(n:Nat):Operator:=[.Add,.Sub,.Mult,.MatMult,.Div,.Mod,.Pow,.LShift,.RShift,.BitOr,.BitXor,.BitAnd,.FloorDiv].getD n .Add
theorem xH(o:Operator):Wg o.ctorIdx=o:=by cases o<;>rfl
theorem Ve{a b:Operator}(h:Nat.beq a.ctorIdx b.ctorIdx=true):a=b:=by rw[<- xH a,<- xH b,Nat.eq_of_beq_eq_true h]
noncomputable def V3(n:Nat):CmpOp:=[.Eq,.NotEq,.Lt,.LtE,.Gt,.GtE,.Is,.IsNot,.In,.NotIn].getD n .Eq
theorem tU(o:CmpOp):V3 o.ctorIdx=o:=by cases o<;>rfl
theorem E6{a b:CmpOp}(h:Nat.beq a.ctorIdx b.ctorIdx=true):a=b:=by rw[<- tU a,<- tU b,Nat.eq_of_beq_eq_true h]
theorem CM{o:Operator}(h:VJ o=true):o=.Mult:=Ve h
theorem xJ{o:UnaryOp}(h:V1 o=true):o=.USub:=by cases o<;>first|rfl|cases h
theorem xK{o:UnaryOp}(h:VU o=true):o=.Not:=by cases o<;>first|rfl|cases h
theorem xM{o:BoolOp}(h:V2 o=true):o=.And:=by cases o<;>first|rfl|cases h
theorem Bp{o:BoolOp}(h:bOr o=true):o=.Or:=by cases o<;>first|rfl|cases h
noncomputable def cIn(o:CmpOp):Bool:=Nat.beq o.ctorIdx CmpOp.In.ctorIdx
theorem Jo{o:CmpOp}(h:cIn o=true):o=.In:=E6 h
noncomputable def UU(k:S):Option Expr->Bool:=Vy (Tp (V0 k))
@[elab_as_elim] theorem E7{k:S}{G:Option Expr->Prop}{e:Option Expr}(h:UU k e=true)(H:∀a b,sok k=true->G (some (.Constant (.str (toS k)) a b))):G e:=
 vI h λe h=>cO (G:=λe=>G (some e)) h λc a b h=>kB (G:=λc=>G (some (.Constant c a b))) h λt h=>z0 (G:=λt=>G (some (.Constant (.str t) a b))) (aj h) (H a b (ak h))
noncomputable def Tv(sc:Scope)(x:Str):Expr->Bool:=S4 λy=>y==x&&b7 sc y
@[elab_as_elim] theorem fX{sc:Scope}{x:Str}{G:Expr->Prop}{e:Expr}(h:Tv sc x e=true)(H:∀p,b7 sc x=true->G (.Name x p)):G e:=
 bI h λy p h=>(eq_of_beq (aj h)).symm.rec (motive:=λy _=>b7 sc y=true->G (.Name y p)) (H p) (ak h)
noncomputable def Vz(sc:Scope):List Expr->Bool
 |[a,b,c]=>Tv sc "tuple" a&&(Tv sc "list" b&&Tv sc "dict" c)
 |_=>false
noncomputable def Jp(sc:Scope)(mask:Nat)(q:Expr):Bool:=match mask with
 |1=>Tv sc "dict" q
 |2=>Tv sc "list" q
 |4=>Tv sc "tuple" q
 |7=>TS (Vz sc) q
 |_=>false
noncomputable def UQ(sc:Scope)(x:Str)(q:List Expr->Bool):Expr->Bool:=TM λf l w _=>Tq w&&S4 (λy=>y==x&&b7 sc y) f&&q l
@[elab_as_elim] theorem lA{sc:Scope}{x:Str}{q:List Expr->Bool}{G:Expr->Prop}{e:Expr}(h:UQ sc x q e=true)(H:∀y np l p,y=x->b7 sc y=true->q l=true->G (.Call (.Name y np) l [] p)):G e:=
 iD h λf l w p h=>fz (G:=λw=>G (.Call f l w p)) (aj (aj h)) (bI (G:=λf=>G (.Call f l [] p)) (ak (aj h)) λy np k=>H y np l p (eq_of_beq (aj k)) (ak k) (ak h))
noncomputable def VK(r:ME->Expr->Bool)(it:ME)(cs:List S):Expr->Bool:=UD λa l lsc=>S4 (λa=>one (λg=>decide (g.is_async=0)&&(r it g.iter&&S4 (λb=>S4 (λ_=>one (λt=>Uu (λc o ts=>one cIn o&&S4 (λc=>one (λtt=>TS (λts=>a==b&&c==b&&mW cs ts&&Nat.ble cs.length 100&&TF lsc b) tt&&!behindInMarks .In tt) ts) c) t) g.ifs) g.iter) g.target)) l) a
@[elab_as_elim] theorem E8{r:ME->Expr->Bool}{it:ME}{cs:List S}{G:Expr->Prop}{e:Expr}(h:VK r it cs e=true)
  (H:∀a ap b bp hn hp c cp ts kk tp ip lsc pos,(((((a==b)&&(c==b))&&mW cs ts)&&Nat.ble cs.length 100)&&TF lsc b)=true->(!behindInMarks .In (.Tuple ts kk tp))=true->r it (.Name hn hp)=true->
   G (.ListComp (.Name a ap) [⟨.Name b bp,.Name hn hp,[.Compare (.Name c cp) [.In] [.Tuple ts kk tp] ip],0⟩] lsc pos)):G e:=
 oA h λx l lsc pos h=>bI (G:=λx=>G (.ListComp x l lsc pos)) h λa ap h=>dZ (G:=λl=>G (.ListComp (.Name a ap) l lsc pos)) h λg h=>match g,h with
  |⟨tg,ix,fs,az⟩,h=>(of_decide_eq_true (aj h)).symm.rec (motive:=λaz _=>G (.ListComp (.Name a ap) [⟨tg,ix,fs,az⟩] lsc pos))
   (bI (G:=λtg=>G (.ListComp (.Name a ap) [⟨tg,ix,fs,0⟩] lsc pos)) (ak (ak h)) λb bp k=>bI (G:=λix=>r it ix=true->G (.ListComp (.Name a ap) [⟨.Name b bp,ix,fs,0⟩] lsc pos)) k (λhn hp h hr=>
    dZ (G:=λfs=>G (.ListComp (.Name a ap) [⟨.Name b bp,.Name hn hp,fs,0⟩] lsc pos)) h λt h=>jy (G:=λt=>G (.ListComp (.Name a ap) [⟨.Name b bp,.Name hn hp,[t],0⟩] lsc pos)) h λc o ts ip h=>
     dZ (G:=λo=>G (.ListComp (.Name a ap) [⟨.Name b bp,.Name hn hp,[.Compare c o ts ip],0⟩] lsc pos)) (aj h) λo k=>
      bI (G:=λc=>G (.ListComp (.Name a ap) [⟨.Name b bp,.Name hn hp,[.Compare c [o] ts ip],0⟩] lsc pos)) (ak h) λc cp h=>
       dZ (G:=λts=>G (.ListComp (.Name a ap) [⟨.Name b bp,.Name hn hp,[.Compare (.Name c cp) [o] ts ip],0⟩] lsc pos)) h λt h=>
        (Jo k).symm.rec (motive:=λo _=>G (.ListComp (.Name a ap) [⟨.Name b bp,.Name hn hp,[.Compare (.Name c cp) [o] [t] ip],0⟩] lsc pos))
         (gX (G:=λt=>(!behindInMarks .In t)=true->G (.ListComp (.Name a ap) [⟨.Name b bp,.Name hn hp,[.Compare (.Name c cp) [.In] [t] ip],0⟩] lsc pos)) (aj h)
          (λts kk tp j m=>H a ap b bp hn hp c cp ts kk tp ip lsc pos j m hr) (ak h))) (aj (ak h)))
noncomputable def E9(K:Frag)(C:Cfg)(sc:Scope)(r:ME->Expr->Bool):ME->Expr->Bool
 | .none=>Tp Vb
 | .bool b=>Tp (Vc b)
 | .int i=>Tp (VT i)
 | .str s=>Tp (V0 s)
 | .loc x=>S4 λy=>nm x==y&&(eu sc y||E2 sc y)
 | .glob x=>S4 λy=>nm x==y&&b7 sc y
 | .tup es=>TS λps=>BY r es ps&&Nat.ble es.length 100
 | .lst _ es=>UB λps=>BY r es ps&&Nat.ble es.length 100
 | .dict _ es=>UC λks ps=>BY r (es.map (·.2)) ps&&BY UU (es.map (·.1)) ks&&Nat.ble es.length 15&&es.all (λp=>TU p.2)&&UE (es.map (·.1))
 | .attr e a=>Ub λp b _=>toS a==b&&jz p&&TN K C a&&r e p
 | .sub e i=>Ut λp q=>qB q&&r e p&&r i q
 | .slice e lo hi=>Ut λp q=>Ug (λpl ph ps=>Vd ps&&r e p&&E3 r lo pl&&E3 r hi ph) q
 | .bin op a b=>UK λp o q=>CK op o&&r a p&&r b q
 | .mul _ a b=>UK λp o q=>VJ o&&r a p&&r b q
 | .neg a=>U4 λo p=>V1 o&&r a p
 | .not a=>U4 λo p=>VU o&&r a p
 | .and es=>Ul λo ps=>V2 o&&BY r es ps
 | .or es=>Ul λo ps=>bOr o&&BY r es ps
 | .ite c a b=>Vt λpc pa pb=>r c pc&&r a pa&&r b pb
 | .cmp op a b=>Uu λp os qs=>one (λo=>one (λq=>lU op o&&!behindInMarks o q&&r a p&&r b q) qs) os
 | .Bc o1 o2 a b c=>Uu λp os qs=>two (λq1 q2=>two (λr1 r2=>lU o1 q1&&lU o2 q2&&!lastMarks [q1,q2] [r1,r2]&&r a p&&r b r1&&r c r2) qs) os
 | .call f es=>TM λp ps w _=>Tq w&&S4 (λ_=>true) p&&r f p&&BY r es ps&&Nat.ble es.length 20
 | .mcall o a es=>TM λp ps w cp=>Tq w&&Ub (λp b ap=>toS a==b&&jz p&&ap.endLine==cp.line&&(TN K C a||C.ct.any λc=>(SX c.2.ms a).isSome)&&r o p) p&&BY r es ps&&Nat.ble es.length 20
 | .len e=>UQ sc "len" (one λp=>Tu p&&r e p)
 | .abs e=>UQ sc "abs" (one λp=>Tu p&&r e p)
 | .list e=>UQ sc "list" (one λp=>Tu p&&r e p)
 | .isi e mask=>UQ sc "isinstance" (two λp q=>Tu p&&Jp sc mask q&&r e p)
 | .filt _ it cs=>VK r it cs
 | .facts=>λ_=>false
 | .any=>Tu
noncomputable def iN(K:Frag)(C:Cfg)(sc:Scope):Nat->ME->Expr->Bool
 |0,_,_=>false
 |k+1,me,pe=>E9 K C sc (iN K C sc k) me pe
noncomputable def bis:List Str:=["len","abs","list","isinstance","dict","tuple","range","Exception"]
structure fY(X:Cx):Prop where
 bi:∀x∈bis,nsIn X.K mainGlobals x=some none
 I1:∀c k,aT X.C.ct c=some k->plainGet X.K c ""=true/\hasDictIn X.K c=true
 keep:∀a,SP X.C a=true->keepIn X.K (.ref a)=true
 ms:∀c k x fa,aT X.C.ct c=some k->SX k.ms x=some fa->findIn X.K (.ref c) (toS x)=some (some (.ref fa))/\isFn X.K (.ref fa)=true
 cls:∀c k,aT X.C.ct c=some k->makesIn X.K c=true/\findIn X.K (.ref c) "__init__"=some (some (.ref k.init))/\isFn X.K (.ref k.init)=true
 tm:∀i,(X.C.tmpl i).length<=100
 one:∃o,X.K.lookup 1=some o
 Qs:∀c k,aT X.C.ct c=some k->findIn X.K (.ref c) "__setattr__"=some (some (.builtin "object.__setattr__"))/\plainOver X.K c=true
 gt:∀x v,aT X.C.gt x=some v->∃u,nsIn X.K mainGlobals (nm x)=some (some u)/\∀γ,X.RV γ u v
noncomputable def SE(X:Cx)(n:Nat)(fe:Loc->G->ME->R V):Prop:=
 ∀(f:Fm)(m:Str->Option Value)(l:Loc)(g:G)(γ:Ga)(s:Shared)(k:Nat)(me:ME)(pe:Expr),
  bB X f n->iN X.K X.C f.scope k me pe=true->aO X f m γ g s.heap->X.Ls f γ m l->dh X f m (λγ' b a=>X.RV γ' b a) (fe l g me) (eval pe f.env) γ s
section
variable{X:Cx}{f:Fm}{m:Str->Option Value}{γ:Ga}{g:G}{s:Shared}{n:Nat}
theorem aO.get(S:aO X f m γ g s.heap)(O:bB X f n){a:Addr}{o:Obj}(h:X.At γ a o):s.heap.get? a=some o:=by
 rcases h with⟨h,_⟩|h
 ·exact S.N.get h
 ·exact S.F.keep _ _ (O.X₀ _ _ h)
theorem dh.ret{α β:Type}{rel:Ga->β->α->Prop}{a:α}{b:β}{sem:Sem β}(S:aO X f m γ g s.heap)(r:rel γ b a)(h:∀Q E,Q b s->wpAny X.M f.A sem Q E s):dh X f m rel (.ok a g) sem γ s:=by intro Φ Ψ Q E hA hE hQ;exact h Q E (hQ a g γ b s.heap s.toks hA (Ext.refl γ) S r)
theorem dh.O8{α β:Type}{rel:Ga->β->α->Prop}{a:α}{b:β}{sem:Sem β}{tk:Nat}(S:aO X f m γ g s.heap)(r:rel γ b a)(h:∀Q E,Q b {s with toks:=tk}->wpAny X.M f.A sem Q E s):dh X f m rel (.ok a g) sem γ s:=by intro Φ Ψ Q E hA hE hQ;exact h Q E (hQ a g γ b s.heap tk hA (Ext.refl γ) S r)
theorem dh.stop{α β:Type}{rel:Ga->β->α->Prop}{sem:Sem β}:dh X f m rel (R.st:R α) sem γ s:=λ_ _ _ _ hA _ _=>hA.elim
theorem dh.opt{α β:Type}{rel:Ga->β->α->Prop}{o:Option α}{sem:Sem β}(h:∀a,o=some a->dh X f m rel (.ok a g) sem γ s):dh X f m rel (Mine.opt o g) sem γ s:=by
 cases o with
 |none=>exact dh.stop
 |some a=>exact h a rfl
theorem RV.handed{u:Value}{v:V}(h:X.RV γ u v):handedIn u=true:=RV.casesOn (motive_1:=λu _ _=>handedIn u=true) h rfl (λ_=>rfl) (λ_ _=>rfl) (λ_ _ _=>rfl) (λ_ _ _=>rfl) (λ_ _ _=>rfl) (λ_ _ _ _ _=>rfl) (λ_ _=>rfl) (λ_=>rfl) (λ_=>rfl) (λ_=>rfl)
theorem vJ{k:NameKind}{sc:Scope}{x:Str}(h:(sc.names.lookup x==some k&&x != ("__debug__":Str))=true):sc.names.lookup x=some k/\(x==("__debug__":Str))=false:=
 ⟨eq_of_beq (aj h),(Bool.not_eq_true' _).mp (ak h)⟩
theorem eG{sc:Scope}{x:Str}(h:eu sc x=true):sc.names.lookup x=some .local/\(x==("__debug__":Str))=false:=vJ h
theorem fD{sc:Scope}{x:Str}(h:b7 sc x=true):sc.names.lookup x=some .globalImplicit/\(x==("__debug__":Str))=false:=vJ h
theorem z4{sc:Scope}{x:Str}(h:E2 sc x=true):sc.names.lookup x=some .cell/\(x==("__debug__":Str))=false:=vJ h
theorem Jq{x:Nat}{y:Str}{pos:Pos}{l:Loc}(O:bB X f n)(S:aO X f m γ g s.heap)(hl:X.Ls f γ m l)(e:nm x=y)(h:(eu f.scope y||E2 f.scope y)=true):
  dh X f m (λγ' b a=>X.RV γ' b a) (Mine.opt (aT l x) g) (eval (.Name y pos) f.env) γ s:=by
 subst e;refine dh.opt λv hv=>?_;obtain⟨u,hu,r⟩:=hl x v hv;refine dh.ret S r λQ E h'=>?_;rcases Bool.or_eq_true_iff.mp h with h|h
 ·exact nameX_L S.F (hu.1 (O.kl _ (eG h).1)) h' O.kind (eG h).1 (eG h).2
 ·obtain⟨c,hc⟩:=O.kc _ (z4 h).1;obtain⟨o,h1,_,h3⟩:=hu.2 c hc;exact nameX_C S.N hc h1 h3 h' O.kind (z4 h).1 (z4 h).2
theorem Fb{x:Nat}{y:Str}{pos:Pos}(KO:fY X)(O:bB X f n)(S:aO X f m γ g s.heap)(e:nm x=y)(h:b7 f.scope y=true):
  dh X f m (λγ' b a=>X.RV γ' b a) (Mine.opt (aT X.C.gt x) g) (eval (.Name y pos) f.env) γ s:=by
 subst e;refine dh.opt λv hv=>?_;obtain⟨u,hu,r⟩:=KO.gt x v hv;exact dh.ret S (r γ) λQ E h'=>nameX_K S.F O.X₀ (topRead_of O.T) hu h' O.kind (fD h).1 (fD h).2
theorem aE{e:Expr}{rest:List Expr}{env:Env}(h:Tu e=true):starEach (e::rest) env=(false,eval e env)::starEach rest env:=by cases e<;>first|rfl|cases h
theorem AS{A:Around}{x:Sem Value}{rest:List (Bool×Sem Value)}{E:Value->Shared->Prop}{Q:List Value->Shared->Prop}{M:Model}
  (h:wpAny M A x (λv s₁=>wpAny M A (spliced rest) (λvs s₂=>Q (v::vs) s₂) E s₁) E s):wpAny M A (spliced ((false,x)::rest)) Q E s:=by
 unfold spliced;refine wpAny_bind (wpAny_mono h (λv s₁ h₁=>wpAny_bind (wpAny_pure (wpAny_bind (wpAny_holding (wpAny_mono h₁ (λvs s₂ h₂=>wpAny_pure h₂) λ_ _ x=>x))))) λ_ _ x=>x)
theorem bC{K:Frag}{C:Cfg}{sc:Scope}{k:Nat}{me:ME}{pe:Expr}(h:iN K C sc k me pe=true):Tu pe=true:=by
 cases k with
 |zero=>exact ff h
 |succ k=>
  replace h:E9 K C sc (iN K C sc k) me pe=true:=h;cases me<;>first
   |exact cO (x:=pe) h λ_ _ _ _=>rfl|exact bI (x:=pe) h λ_ _ _=>rfl|exact gX (x:=pe) h λ_ _ _ _=>rfl|exact ow (x:=pe) h λ_ _ _=>rfl|exact oz (x:=pe) h λ_ _ _ _=>rfl|exact jw (x:=pe) h λ_ _ _ _=>rfl|exact ku (x:=pe) h λ_ _ _ _=>rfl
   |exact mU (x:=pe) h λ_ _ _ _ _=>rfl|exact mV (x:=pe) h λ_ _ _ _=>rfl|exact jx (x:=pe) h λ_ _ _ _=>rfl|exact vG (x:=pe) h λ_ _ _ _ _=>rfl|exact jy (x:=pe) h λ_ _ _ _ _=>rfl|exact iD (x:=pe) h λ_ _ _ _ _=>rfl|exact oA (x:=pe) h λ_ _ _ _ _=>rfl|exact ff h|exact h
theorem Vf{fe:Fs}{l:Loc}{k:Nat}(H:SE X n fe.e)(O:bB X f n){pos:Pos}:∀{es:List ME}{ps:List Expr}{γ:Ga}{g:G}{s:Shared},BY (iN X.K X.C f.scope k) es ps=true->aO X f m γ g s.heap->X.Ls f γ m l->
  dh X f m (λγ' b a=>X.cH γ' b a/\a.length=es.length) (evs fe l g es) (spliced (backTo pos (starEach ps f.env))) γ s
 |[],[],γ,g,s,_,S,_=>by show dh X f m _ (.ok [] g) (pure []) γ s;exact dh.ret S ⟨.nil,rfl⟩ λQ E h=>wpAny_pure h
 |e::es,q::ps,γ,g,s,c,S,hl=>by
  have c':(iN X.K X.C f.scope k e q&&BY (iN X.K X.C f.scope k) es ps)=true:=c;rw[Bool.and_eq_true]at c';rw[aE (bC c'.1)];show dh X f m _ ((fe.e l g e).bind λv g=>(evs fe l g es).bind λvs g=>.ok (v::vs) g) (spliced ((false,eval q f.env)::backTo pos (starEach ps f.env))) γ s;intro Φ Ψ Q E hA hE hQ;refine AS ?_;refine H f m l g γ s k e q O c'.1 S hl _ Ψ _ E (R.All.bind.mp hA) hE λv g1 γ1 u h1 tk1 hA1 e1 S1 r1=>?_;refine Vf H O (γ:=γ1) (s:={s with heap:=h1,toks:=tk1}) c'.2 S1 (hl.ext e1) _ Ψ _ E (R.All.bind.mp hA1) (hE.at h1 tk1) λvs g2 γ2 us h2 tk2 hA2 e2 S2 r2=>?_
  exact hQ (v::vs) g2 γ2 (u::us) h2 tk2 hA2 (e1.trans e2) S2 ⟨.cons (r1.ext e2) r2.1,by simp [r2.2]⟩
 |[],_::_,_,_,_,c,_,_=>by cases c
 |_::_,[],_,_,_,c,_,_=>by cases c
theorem cZ{k:Nat}(h:k<=1000000):k<=sizeLine:=by rw[sizeLine_eq];exact l8 h rfl
theorem Jr{fe:Fs}{l:Loc}{k:Nat}(H:SE X n fe.e)(O:bB X f n){pos:Pos}{es:List ME}{ps:List Expr}{kk:Nat}(c:(BY (iN X.K X.C f.scope k) es ps&&Nat.ble es.length 100)=true)(S:aO X f m γ g s.heap)(hl:X.Ls f γ m l):
  dh X f m (λγ' b a=>X.RV γ' b a) ((evs fe l g es).bind λvs g=>.ok (.tup vs) g) (eval (.Tuple ps kk pos) f.env) γ s:=by
 rw[Bool.and_eq_true]at c;intro Φ Ψ Q E hA hE hQ;refine Tuple_ ?_;refine Vf H O c.1 S hl _ Ψ _ E (R.All.bind.mp hA) hE λvs g1 γ1 us h1 tk1 hA1 e1 S1 r1=>?_;refine newTuple_N (s:={s with heap:=h1,toks:=tk1}) S1.F S1.N (λh' F' N'=>?_) (cZ (Jb (r1.1.length.trans r1.2) (Nat.le_of_ble_eq_true c.2) rfl))
 have fr:∀p∈γ1.news,p.1 < h1.objs.size:=λp hp=>Heap.lt_size (S1.N p hp).1;exact hQ (.tup vs) g1 (γ1.push h1.objs.size _) _ h' tk1 hA1 (e1.trans (Ext.push S1.gk)) ⟨F',N',S1.gk.push fr⟩ (.tup (At.push S1.gk fr) (r1.1.ext (Ext.push S1.gk)) (Jb r1.2 (Nat.le_of_ble_eq_true c.2) rfl))
theorem jA{i:Nat}{c:By}{Φ:V->G->Prop}{Ψ:Prop}(hA:(g.alloc i c).All Φ Ψ):aT g.hp i=some .free/\Φ (.ref i) ⟨jf g.hp i c,g.left,g.lk⟩:=by
 have hA:R.All Φ Ψ (match aT g.hp i with
  |some .free=>.ok (.ref i) ⟨jf g.hp i c,g.left,g.lk⟩
  |_=>.st):=hA
 cases h:aT g.hp i with
 |none=>rw[h]at hA;exact hA.elim
 |some c'=>
  rw[h]at hA;cases c' with
  |free=>exact⟨rfl,hA⟩
  |_=>exact hA.elim
theorem aO.alloc(S:aO X f m γ g s.heap){i:Nat}{c:By}{Φ:V->G->Prop}{Ψ:Prop}(hA:(g.alloc i c).All Φ Ψ):aT g.hp i=some .free/\Φ (.ref i) ⟨jf g.hp i c,g.left,g.lk⟩:=jA hA
theorem CN{Φ:V->G->Prop}{Ψ:Prop}{vs:List V}(h:(Ur g vs).All Φ Ψ):∃x l,vs=[.lst (x::l),.int 0]/\TH (x::l)=true/\l.length<=1000/\(g.alloc 0 .pen).All Φ Ψ:=by
 have key:∀{a b:Bool}{t:R V},R.All Φ Ψ (match a,b with|true,true=>t|_,_=>.st)->a=true/\b=true/\t.All Φ Ψ:=λ{a b t} h=>by
  cases a with
  |false=>exact h.elim
  |true=>cases b with
   |false=>exact h.elim
   |true=>exact⟨rfl,rfl,h⟩
 match vs,h with
 |[.lst (x::l),.int 0],h=>have h:=key (a:=TH (x::l)) (b:=Nat.ble l.length 1000) h;exact⟨x,l,rfl,h.1,Nat.le_of_ble_eq_true h.2.1,h.2.2⟩
inductive Vg(X:Cx)(f:Fm)(m:Str->Option Value)(Φ:V->G->Prop)(γ:Ga)(h:Heap)(u:Value):Prop where
 |mk (v:V) (g:G) (γ':Ga) (p:Φ v g) (e:Ext γ γ') (Z:aO X f m γ' g h) (r:X.RV γ' u v)
noncomputable def O9(pol:Nat)(vs:List V)(g:G):R V:=match pol with
  |0=>.ok (.lst vs) g
  |1=>match vs with
   |[]=>.ok .jl g
   |_=>.st
  |2=>Ur g vs
  |k+3=>g.alloc (k+1) (.list vs)
theorem Js{h₁ h':Heap}{a:Addr}{us:List Value}{vs:List V}{Φ:V->G->Prop}{Ψ:Prop}(Z:aO X f m γ g h₁)(fr:∀p∈γ.news,p.1 < a)(F':Fr f.h₀ f.L h' m)(N':News f.h₀ f.L h' ((a,listOf us.toArray 0)::γ.news))
  (r:X.cH γ us vs) (hA:(Ur g vs).All Φ Ψ):Vg X f m Φ γ h' (.ref a):=by
 obtain⟨x,l',rfl,hi,hz,hA⟩:=CN hA;obtain⟨u,_,rfl,ra,rb⟩:=r.cons_inv;obtain⟨_,_,rfl,ri,rc⟩:=rb.cons_inv;obtain rfl:=rc.nil_inv;obtain⟨t,rfl⟩:=ri.int_inv;obtain⟨la,xs,nn,rfl,hat,hrs,_⟩:=ra.lst_inv;clear ra rb rc ri;obtain⟨hfree,hA⟩:=jA hA;have ex:=Ext.alloc (o:=listOf (List.toArray [.ref la,.int 0 t]) 0) Z.gk fr (Z.gk.cell _ _ hfree);exact⟨_,_,_,hA,ex,⟨F',N',Z.gk.alloc fr hfree ⟨a,_,cB,.head _,la,0,t,0,xs,nn,_,rfl,Int.le_refl 0,hat.ext ex,hrs.ext ex,hi,(λe=>nomatch e),Nat.succ_le_succ hz⟩⟩,.ref cB⟩
theorem Fc{h₁ h':Heap}{a:Addr}{us:List Value}{vs:List V}{q:Nat}{Φ:V->G->Prop}{Ψ:Prop}(Z:aO X f m γ g h₁)(fr:∀p∈γ.news,p.1 < a)(F':Fr f.h₀ f.L h' m)(N':News f.h₀ f.L h' ((a,listOf us.toArray 0)::γ.news))
  (r:X.cH γ us vs) (hz:vs.length<=100) (hA:(g.alloc q (.list vs)).All Φ Ψ):Vg X f m Φ γ h' (.ref a):=by
 obtain⟨hfree,hA⟩:=jA hA;have ex:=Ext.alloc (o:=listOf us.toArray 0) Z.gk fr (Z.gk.cell _ _ hfree);exact⟨_,_,_,hA,ex,⟨F',N',Z.gk.alloc fr hfree ⟨a,us,0,cB,.head _,r.ext ex,Nat.le_trans (Nat.add_le_add hz Z.gk.lf) (by decide)⟩⟩,.ref cB⟩
theorem Fd{h₁ h':Heap}{a:Addr}{us:List Value}{vs:List V}{Φ:V->G->Prop}{Ψ:Prop}(Z:aO X f m γ g h₁)(fr:∀p∈γ.news,p.1 < a)(F':Fr f.h₀ f.L h' m)(N':News f.h₀ f.L h' ((a,listOf us.toArray 0)::γ.news))
  (r:X.cH γ us vs) (hz:vs.length<=100):∀{pol:Nat},(O9 pol vs g).All Φ Ψ->Vg X f m Φ γ h' (.ref a)
 |0,hA=>⟨_,_,_,hA,Ext.push Z.gk,⟨F',N',Z.gk.push fr⟩,.lst (At.push Z.gk fr) (r.ext (Ext.push Z.gk)) (Nat.le_trans hz (by decide))⟩
 |1,hA=>by
  cases vs with
  |cons v vs=>exact hA.elim
  |nil=>obtain rfl:=r.nil_inv;exact⟨_,_,_,hA,Ext.zW Z.gk fr,⟨F',N',Z.gk.zW fr (Nat.le_trans (Nat.add_le_add_left Z.gk.lf 0) (by decide))⟩,.jl (.head _)⟩
 |2,hA=>Js Z fr F' N' r hA
 |q+3,hA=>Fc Z fr F' N' r hz hA
theorem Jt{fe:Fs}{l:Loc}{k:Nat}(H:SE X n fe.e)(O:bB X f n){pos:Pos}{es:List ME}{ps:List Expr}{pol:Nat}(c:(BY (iN X.K X.C f.scope k) es ps&&Nat.ble es.length 100)=true)(S:aO X f m γ g s.heap)(hl:X.Ls f γ m l):
  dh X f m (λγ' b a=>X.RV γ' b a) ((evs fe l g es).bind λvs g=>O9 pol vs g) (eval (.List ps pos) f.env) γ s:=by
 have hz:=Nat.le_of_ble_eq_true (ak c);intro Φ Ψ Q E hA hE hQ;refine List_ ?_;refine Vf H O (aj c) S hl _ Ψ _ E (R.All.bind.mp hA) hE λvs g1 γ1 us h1 tk1 hA1 e1 S1 r1=>?_;have hz:=r1.2▸hz;refine newList_K (s:={s with heap:=h1,toks:=tk1}) S1.F S1.N (λa h' F' N' fr=>?_) (cZ (Nat.le_trans (r1.1.length▸hz) (by decide)))
 obtain⟨v,g2,γ2,p,e,Z,r⟩:=Fd S1 fr F' N' r1.1 hz hA1;exact hQ v g2 γ2 _ h' tk1 p (e1.trans e) Z r
theorem jB{o:Expr}{a:Str}{env:Env}{whole:Sem Value}(h:jz o=true):attributeBase o a env whole=whole:=by
 cases o with
 |Call c l w p=>cases c with
  |Name y q=>cases l with
   |nil=>cases w with
    |nil=>exact ff h
    |cons _ _=>rfl
   |cons _ _=>rfl
  |_=>rfl
 |_=>rfl
end
section
variable{X:Cx}{f:Fm}{m:Str->Option Value}{γ:Ga}{g:G}{s:Shared}{n:Nat}
theorem fZ{α:Type}{l:List (Nat×α)}{i:Nat}{a:α}(h:aT l i=some a):(i,a)∈l:=by
 induction l with
 |nil=>exact nomatch h
 |cons p l ih=>
  have h:(match Nat.beq p.1 i with|true=>some p.2|false=>aT l i)=some a:=h
  cases q:Nat.beq p.1 i with
  |true=>rw[q]at h;rw[<- Option.some.inj h,<- Nat.eq_of_beq_eq_true q];exact .head _
  |false=>rw[q]at h;exact .tail _ (ih h)
theorem UL{i:Nat}{c:By}(h:g.get i=c)(hc:c≠.free):aT g.hp i=some c:=by
 unfold G.get at h;cases q:aT g.hp i with
 |some c'=>rw[q]at h;exact congrArg some h
 |none=>rw[q]at h;exact absurd h.symm hc
theorem cU(Z:aO X f m γ g s.heap){i:Nat}{tab:List (S×Option V)}{ord:List S}(h:g.get i=.dict tab ord):U8 X.prog X.w X.K γ i tab ord:=
 Z.gk.cell i _ (UL h (λz=>nomatch z))
theorem dG(Z:aO X f m γ g s.heap){i:Nat}{l:List V}(h:g.get i=.list l):ES X.prog X.w X.K γ g.left i l:=
 Z.gk.cell i _ (UL h (λz=>nomatch z))
inductive Pa(X:Cx)(γ:Ga)(h:Heap)(x C dx:Addr)(tab:List (S×Option V))(ord:List S):Prop
 |mk (es:List DictEntry) (k:Nat) (kvs:List (Str×Value)) (l:List (S×V)) (hm:(dx,dictOf es k)∈γ.news) (I:InstAt h x (instObj C dx) C (some (dictOf es k))) (ps:Pairs (strKind X.prog X.w) es kvs) (hk:KeysOf (strKind X.prog X.w) es.toArray)
  (hn:(kvs.map (·.1)).Nodup) (hp:X.gR γ kvs l) (ho:l.map (·.1)=ord) (ht:mQ tab l)
theorem vK(Z:aO X f m γ g s.heap)(O:bB X f n){x C d dx:Nat}{tab:List (S×Option V)}{ord:List S}(hr:γ.rho.lookup d=some dx)(ha:X.At γ x (instObj C dx))(hg:g.get d=.dict tab ord):Pa X γ s.heap x C dx tab ord:=by obtain⟨a,o,kvs,l,r,hm,hd,hp,ho,ht⟩:=cU Z hg;obtain rfl:=Option.some.inj (hr.symm.trans r);obtain⟨es,k,rfl,hk,hps,hn⟩:=jL hd;exact⟨es,k,kvs,l,hm,⟨Z.get O ha,rfl,rfl,Z.N.get hm⟩,hps,hk,hn,hp,ho,ht⟩
theorem tV{a:S}{c:Nat}{k:EM}(h:TN X.K X.C a=true)(hc:aT X.C.ct c=some k):findIn X.K (.ref c) (toS a)=some none:=
 eq_of_beq (List.all_eq_true.mp h _ (fZ hc))
noncomputable def VL(C:Cfg)(a:S)(v:V)(g:G):R V:=match v with
  | .inst c d=>match aT C.ct c,g.get d with
   |some _,.dict tab _=>opt (S3 tab a) g
   |_,_=>.st
  |_=>.st
theorem CO{C:Cfg}{a:S}{v:V}{Φ:V->G->Prop}{Ψ:Prop}(h:(VL C a v g).All Φ Ψ):∃c d k tab ord y,v=.inst c d/\aT C.ct c=some k/\g.get d=.dict tab ord/\S3 tab a=some y/\Φ y g:=by
 cases v with
 |inst c d=>
  have h:R.All Φ Ψ (match aT C.ct c,g.get d with
   |some _,.dict tab _=>opt (S3 tab a) g
   |_,_=>.st):=h
  cases hc:aT C.ct c with
  |none=>rw[hc]at h;exact h.elim
  |some k=>
   rw[hc]at h;cases hg:g.get d with
   |dict tab ord=>rw[hg]at h;obtain⟨y,hy,h⟩:=R.All.opt h;exact⟨c,d,k,tab,ord,y,rfl,hc,hg,hy,h⟩
   |_=>rw[hg]at h;exact h.elim
 |_=>exact h.elim
theorem Fe(KO:fY X){fe:Loc->G->ME->R V}{l:Loc}{k:Nat}{e:ME}{q:Expr}{a:S}{b:Str}{pos:Pos}(H:SE X n fe)(O:bB X f n)
  (h1:toS a=b) (h2:jz q=true) (h3:TN X.K X.C a=true) (h4:iN X.K X.C f.scope k e q=true) (Z:aO X f m γ g s.heap) (hl:X.Ls f γ m l):
  dh X f m (λγ' b a=>X.RV γ' b a) ((fe l g e).bind λv g=>VL X.C a v g) (eval (.Attribute q b pos) f.env) γ s:=by
 subst h1;intro Φ Ψ Q E hA hE hQ;refine Attribute_any_ ?_ (by
  refine(?_:(do
   let o <- attributeBase q (toS a) f.env (eval q f.env)
   standAt pos.atName
   let r <- holding [o] (getAttr o (toS a) true)
   letTemporaryGo q o r
   pure r)=_)
  rw[jB h2])
 refine H f m l g γ s k e q O h4 Z hl _ Ψ _ E (R.All.bind.mp hA) hE λv g1 γ1 u hp1 tk1 hA1 e1 S1 r1=>?_;clear hA Z hl;obtain⟨c,d,kc,tab,ord,y,rfl,hc,hg,hy,hA1⟩:=CO hA1;obtain⟨x,dx,rfl,hr,hat⟩:=r1.qA;obtain⟨es,kk,kvs,ll,hm,I,hps,hk,hn,hp,ho,ht⟩:=vK (s:={s with heap:=hp1,toks:=tk1}) S1 O hr hat hg
 have hvv:=gR.mO hp a;rw[<- ht.1 a,hy]at hvv;obtain⟨u,hu,ru⟩:=hvv;have kg:=KO.I1 c kc hc;exact get_own (s:={s with heap:=hp1,toks:=tk1}) S1.F O.X₀ I kg.1 kg.2 (tV h3 hc) rfl ((p7 hps _).trans (congrArg some hu)) ru.handed (hQ y g1 γ1 u hp1 _ hA1 e1 S1 ru)
end
section
variable{X:Cx}{f:Fm}{m:Str->Option Value}{γ:Ga}{g:G}{s:Shared}{n:Nat}
theorem iK(Z:aO X f m γ g s.heap)(O:bB X f n){a:Addr}{vs:List Value}{k:Nat}(h:X.At γ a (iJ vs k)):IsTup s.heap a vs.toArray:=⟨_,Z.get O h,rfl,k,rfl⟩
theorem lB(Z:aO X f m γ g s.heap)(O:bB X f n){a:Addr}{vs:List Value}{k:Nat}(h:X.At γ a (listOf vs.toArray k)):s.heap.IsList a vs.toArray:=⟨_,Z.get O h,rfl,k,rfl⟩
theorem CP(Z:aO X f m γ g s.heap)(O:bB X f n){a:Addr}{o:Obj}{kvs:List (Str×Value)}(h:X.At γ a o)(d:o.IsDictOf (strKind X.prog X.w) kvs):s.heap.DictOf (strKind X.prog X.w) a kvs:=
 Heap.dictOf_iff.mpr ⟨o,Z.get O h,d⟩
theorem tW(k:S)(t:Tok):(strKind X.prog X.w).is (toS k) (.str (toS k) t)=true:=by show(toS k==toS k)=true;exact beq_self_eq_true _
theorem cJ{α:Type}{c:Bool}{x:Option α}{y:α}(h:grd c x=some y):c=true/\x=some y:=by
 cases c with
 |true=>exact⟨rfl,h⟩
 |false=>exact aL h
inductive Sh{α:Type}(φ:Int->Option α)(v:V)(y:α):Prop
 |mk (k:Int) (e:v=.int k) (h:φ k=some y)
theorem eU{α:Type}{φ:Int->Option α}{v:V}{y:α}(h:onI φ v=some y):Sh φ v y:=by
 cases v with
 |int k=>exact⟨k,rfl,h⟩
 |_=>exact aL h
inductive Sj{α:Type}(φ:S->Option α)(v:V)(y:α):Prop
 |mk (k:S) (e:v=.str k) (h:φ k=some y)
theorem jM{α:Type}{φ:S->Option α}{v:V}{y:α}(h:onS φ v=some y):Sj φ v y:=by
 cases v with
 |str k=>exact⟨k,rfl,h⟩
 |_=>exact aL h
inductive Sk{α:Type}(g:G)(i:Nat)(fl:List V->Option α)(fd:List (S×Option V)->List S->Option α)(y:α):Prop
 |list (l:List V) (hg:g.get i=.list l) (h:fl l=some y)
 |dict (t:List (S×Option V)) (o:List S) (hg:g.get i=.dict t o) (h:fd t o=some y)
theorem qa{α:Type}{g:G}{i:Nat}{fl:List V->Option α}{fd:List (S×Option V)->List S->Option α}{y:α}(h:onC g i fl fd=some y):Sk g i fl fd y:=by
 have h:(match g.get i with| .list l=>fl l| .dict t o=>fd t o|_=>none)=some y:=h
 cases hg:g.get i with
 |list l=>rw[hg]at h;exact .list l hg h
 |dict t o=>rw[hg]at h;exact .dict t o hg h
 |_=>rw[hg]at h;exact aL h
theorem vL{k:Int}(h:k<=1000000):k < 2 ^ 63:=Int.lt_of_le_of_lt h (by decide)
theorem Pb{k:Int}(h:-1000000<=k):-(2 ^ 63)<=k:=Int.le_trans (by decide) h
theorem Mg{k:Int}(h:0<=k):-(2 ^ 63)<=k:=Int.le_trans (by decide) h
theorem tX{n:Nat}{k:Int}(h:0<=k+n):-(n:Int)<=k:=by omega
inductive QY(n:Nat)(k:Int)(j:Nat):Prop
 |pos (h:0<=k) (e:k.toNat=j)
 |neg (h:k < 0) (h':0<=k+n) (e:(k+n).toNat=j)
theorem Bq{n:Nat}{k:Int}{j:Nat}(h:idx n k=some j):QY n k j:=by
 have h:(match decide (0<=k)with|true=>some k.toNat|false=>grd (decide (0<=k+n)) (some (k+n).toNat))=some j:=h
 cases h0:decide (0<=k)with
 |true=>rw[h0]at h;exact .pos (of_decide_eq_true h0) (Option.some.inj h)
 |false=>rw[h0]at h;have h:=cJ h;exact .neg (Int.not_le.mp (of_decide_eq_false h0)) (of_decide_eq_true h.1) (Option.some.inj h.2)
theorem CQ{n:Nat}{k:Int}{j:Nat}(hj:idx n k=some j)(hn:j < n):-(n:Int)<=k/\k < n:=by
 cases Bq hj with
 |pos h e=>exact⟨Int.le_trans (Int.neg_nonpos_of_nonneg (Int.natCast_nonneg n)) h,(Int.toNat_lt h).mp (e▸hn)⟩
 |neg h h' e=>exact⟨tX h',Int.lt_of_lt_of_le h (Int.natCast_nonneg n)⟩
theorem xN{a:Addr}{vs:List Value}{k:Int}{t:Tok}{j:Nat}{x:Value}(hl:s.heap.IsList a vs.toArray)(h1:-(2 ^ 63)<=k)(h2:k < 2 ^ 63)(hj:idx vs.length k=some j)(hx:vs[j]?=some x){A:Around}{Q:Value->Shared->Prop}{E:Value->Shared->Prop}(h:Q x s):
  wpAny X.M A (getItem (.ref a) (.int k t)) Q E s:=by
 have hx:vs.toArray[j]?=some x:=List.getElem?_toArray.trans hx;cases Bq hj with
 |pos h0 e=>exact wpAny_getItem_list hl h0 h2 (e.symm▸hx) h
 |neg h0 h' e=>exact wpAny_getItem_list_neg hl h0 (by rw[List.size_toArray];exact tX h') h1 (by rw[List.size_toArray,e];exact hx) h
inductive qC(X:Cx)(f:Fm)(γ:Ga)(s:Shared)(u ui:Value)(v:V):Prop
 |mk (uv:Value) (T:String) (id:String) (r:X.RV γ uv v) (hT:s.TypeIs u T) (hl:typeLookup (.type T) "__getitem__"=pure (some (.builtin id))) (h:∀(Q:Value->Shared->Prop)(E:Value->Shared->Prop),(∀tk,Q uv {s with toks:=tk})->wpAny X.M f.A (getItem u ui) Q E s)
theorem Uv{a:Addr}{vs:List Value}{l:List V}{k:Int}{t:Tok}{v:V}(hl:s.heap.IsList a vs.toArray)(hr:X.cH γ vs l)(h1:-(2 ^ 63)<=k)(h2:k < 2 ^ 63)(h:((idx l.length k).bind λn=>l[n]?)=some v):qC X f γ s (.ref a) (.int k t) v:=by obtain⟨j,hj,hv⟩:=Option.bind_eq_some_iff.mp h;obtain⟨x,hx,rx⟩:=hr.get hv;exact⟨x,_,_,rx,hl.typeIs,slot_list_getitem.lookup,λQ E q=>xN (X:=X) hl h1 h2 (by rw[hr.length];exact hj) hx (q s.toks)⟩
theorem Uw{a:Addr}{kvs:List (Str×Value)}{l:List (S×V)}{k:S}{t:Tok}{v:V}(hl:s.heap.DictOf (strKind X.prog X.w) a kvs)(hr:X.gR γ kvs l)(h:SX l k=some v):qC X f γ s (.ref a) (.str (toS k) t) v:=by have q:=hr.mO k;rw[h]at q;obtain⟨u,hu,ru⟩:=q;exact⟨u,_,_,ru,hl.typeIs,slot_dict_getitem.lookup,λQ E q=>wpAny_getItem_of (tW k t) hl.mapOf hu (q _)⟩
theorem tY{k:Int}{n:Nat}(h0:0<=k)(h1:k.toNat < n):seqIndex? k n=some k.toNat:=by
 refine(?_:(if(decide (0<=(if k < 0 then k+n else k))&&decide ((if k < 0 then k+n else k) < (n:Int)))=true then some (if k < 0 then k+n else k).toNat else none)=_)
 rw[if_neg (Int.not_lt.mpr h0),decide_eq_true h0,decide_eq_true ((Int.toNat_lt h0).mp h1)];rfl
theorem xO(Z:aO X f m γ g s.heap)(O:bB X f n){u:Value}{l:List V}{k:Int}{t:Tok}{v:V}(ra:X.RV γ u (.tup l))(h0:0<=k)(h1:k<=1000000)(h:l[k.toNat]?=some v):qC X f γ s u (.int k t) v:=by obtain⟨_,_,_,rfl,ha,hr,_⟩:=ra.fB;obtain⟨x,hx,rx⟩:=hr.get h;have ht:=iK Z O ha;have hlt:=(List.getElem?_eq_some_iff.mp hx).1;exact⟨x,_,_,rx,ht.typeIs,PyProof.Rows.slot_tuple_getitem.lookup,λQ E q=>getItem_tuple (j:=k.toNat) ht (Mg h0) (vL h1) (tY h0 (by rw[List.size_toArray];exact hlt)) (List.getElem?_toArray.trans hx) (q s.toks)⟩
theorem xP{u:Value}{x:S}{k:Int}{t:Tok}{v:V}(ra:X.RV γ u (.str x))(h0:0<=k)(h1:k<=1000000)(h:((x[k.toNat]?).map λc=>V.str [c])=some v):qC X f γ s u (.int k t) v:=by
 obtain⟨c,hc,rfl⟩:=Option.map_eq_some_iff.mp h;obtain⟨t,rfl,hsx⟩:=ra.str_inv;have hlt:=(List.getElem?_eq_some_iff.mp hc).1;have hj:seqIndex? k (toS x).length=some k.toNat:=tY h0 (Nat.lt_of_lt_of_eq hlt (show x.length=(toS x).length from List.size_toArray.symm));refine⟨.str (toS [c]) s.toks,"str",_,.str _ _ (xE.mpr ⟨vD.mp hsx c (List.mem_of_getElem? hc),rfl⟩),typeIs_str s _ t,F.slot_str_getitem.lookup,λQ E q=>P.getItem_str (c:=c) ?_ ?_ (q _)⟩
 ·rw[decide_eq_false (Int.not_lt.mpr (Mg h0)),decide_eq_false (Int.not_le.mpr (vL h1))];rfl
 ·rw[hj];exact List.getElem?_toArray.trans hc
theorem Ju(Z:aO X f m γ g s.heap)(O:bB X f n){u ui:Value}{a b v:V}(ra:X.RV γ u a)(rb:X.RV γ ui b)(h:item g a b=some v):qC X f γ s u ui v:=by
 cases a with
 |str x=>obtain⟨k,rfl,h⟩:=eU h;obtain⟨t,rfl⟩:=rb.int_inv;have h:=cJ h;exact xP ra (of_decide_eq_true (aj h.1)) (of_decide_eq_true (ak h.1)) h.2
 |tup l=>obtain⟨k,rfl,h⟩:=eU h;obtain⟨t,rfl⟩:=rb.int_inv;have h:=cJ h;exact xO Z O ra (of_decide_eq_true (aj h.1)) (of_decide_eq_true (ak h.1)) h.2
 |lst l=>obtain⟨k,rfl,h⟩:=eU h;obtain⟨t,rfl⟩:=rb.int_inv;have h:=cJ h;obtain⟨_,_,_,rfl,ha,hr,_⟩:=ra.lst_inv;exact Uv (lB Z O ha) hr (Pb (of_decide_eq_true (ak h.1))) (vL (of_decide_eq_true (aj h.1))) h.2
 |dct l=>obtain⟨k,rfl,h⟩:=jM h;obtain⟨t,rfl,_⟩:=rb.str_inv;obtain⟨_,_,_,rfl,ha,hm,hd,hr,_⟩:=ra.lz;exact Uw (CP Z O (.inl ⟨ha,hm⟩) hd) hr h
 |ref j=>
  obtain⟨_,rfl,hr⟩:=ra.fC;cases qa h with
  |list l hg h=>obtain⟨k,rfl,h⟩:=eU h;obtain⟨t,rfl⟩:=rb.int_inv;obtain⟨d,its,nn,r,hm,hrs,hz⟩:=dG Z hg;obtain rfl:=Option.some.inj (hr.symm.trans r);obtain⟨jj,hj,hv⟩:=Option.bind_eq_some_iff.mp h;have hb:=CQ hj (List.getElem?_eq_some_iff.mp hv).1;have hz:=Int.ofNat_le.mpr (Nat.le_trans (Nat.le_add_right _ _) hz);exact Uv ⟨_,Z.N.get hm,rfl,nn,rfl⟩ hrs (Pb (Int.le_trans (Int.neg_le_neg hz) hb.1)) (vL (Int.le_trans (Int.le_of_lt hb.2) hz)) h
  |dict tab ord hg h=>obtain⟨k,rfl,h⟩:=jM h;obtain⟨t,rfl,_⟩:=rb.str_inv;obtain⟨d,o,kvs,ll,r,hm,hd,hp,ho,ht⟩:=cU Z hg;obtain rfl:=Option.some.inj (hr.symm.trans r);exact Uw (Heap.dictOf_iff.mpr ⟨o,Z.N.get hm,hd⟩) hp ((ht.1 k).symm.trans h)
 |_=>exact aL h
theorem qD{e:Expr}{o i:Value}(h:qB e=true):subscripted e false o i=operate [o,i] (getItem o i):=by
 cases e with
 |Slice a b c d=>exact ff h
 |_=>rfl
theorem Jv{fe:Loc->G->ME->R V}{l:Loc}{k:Nat}{e i:ME}{p q:Expr}{pos:Pos}(H:SE X n fe)(O:bB X f n)
  (h2:qB q=true) (h3:iN X.K X.C f.scope k e p=true) (h4:iN X.K X.C f.scope k i q=true) (Z:aO X f m γ g s.heap) (hl:X.Ls f γ m l):
  dh X f m (λγ' b a=>X.RV γ' b a) ((fe l g e).bind λa g=>(fe l g i).bind λb g=>opt (item g a b) g) (eval (.Subscript p q pos) f.env) γ s:=by
 intro Φ Ψ Q E hA hE hQ;refine Subscript_ ?_;refine H f m l g γ s k e p O h3 Z hl _ Ψ _ E (R.All.bind.mp hA) hE λa g1 γ1 u h1 tk1 hA1 e1 Z1 r1=>?_;refine H f m l g1 γ1 _ k i q O h4 Z1 (hl.ext e1) _ Ψ _ E (R.All.bind.mp hA1) (hE.at h1 tk1) λb g2 γ2 ui h2' tk2 hA2 e2 Z2 r2=>?_;obtain⟨v,hv,hA3⟩:=R.All.opt hA2;obtain⟨uv,T,id,rv,hT,hlk,hw⟩:=Ju (s:={s with heap:=h2',toks:=tk2}) Z2 O (r1.ext e2) r2 hv
 exact tail_any hT hlk (hw _ _ λtk=>hQ v g2 γ2 uv h2' tk hA3 (e1.trans e2) Z2 rv) (qD h2)
end
section
variable{X:Cx}{f:Fm}{m:Str->Option Value}{γ:Ga}{g:G}{s:Shared}{n:Nat}
theorem aO.push(Z:aO X f m γ g s.heap)(o:Obj)(hfree:o.isFreed=false:=by rfl):aO X f m (γ.push s.heap.objs.size o) g (s.heap.push o)/\Ext γ (γ.push s.heap.objs.size o)/\X.At (γ.push s.heap.objs.size o) s.heap.objs.size o:=by have fr:∀p∈γ.news,p.1 < s.heap.objs.size:=λp hp=>Heap.lt_size (Z.N p hp).1;exact⟨⟨Z.F.push _,Z.N.push Z.F _ hfree,Z.gk.push fr⟩,Ext.push Z.gk,At.push Z.gk fr⟩
theorem xQ{fe:Loc->G->ME->R V}{l:Loc}{k:Nat}{f':Fs}(hf:f'.e=fe)(H:SE X n fe)(O:bB X f n){e:Option ME}{p:Option Expr}(c:E3 (iN X.K X.C f.scope k) e p=true)(Z:aO X f m γ g s.heap)(hl:X.Ls f γ m l):
  dh X f m (λγ' b a=>X.RV γ' b a) (evo f' l g e) (evalPart p f.env) γ s:=by
 subst hf;cases e with
 |none=>
  cases p with
  |none=>exact dh.ret Z .none λQ E h=>wpAny_pure h
  |some _=>cases c
 |some e=>
  cases p with
  |none=>cases c
  |some p=>exact H f m l g γ s k e p O c Z hl
inductive Nb(X:Cx)(γ:Ga)(h:Heap)(u:Value)(l:List V):Prop
 |mk (d:Addr) (vs:List Value) (e:u=.ref d) (hl:h.IsList d (List.toArray vs)) (r:X.cH γ vs l) (z:l.length<=1000000)
theorem iL(Z:aO X f m γ g s.heap)(O:bB X f n){u:Value}{a:V}{l:List V}(r:X.RV γ u a)(h:SY g a=some l):Nb X γ s.heap u l:=by
 cases a with
 |lst l'=>obtain rfl:=Option.some.inj h;obtain⟨_,_,_,rfl,ha,hr,hz⟩:=r.lst_inv;exact⟨_,_,rfl,lB Z O ha,hr,hz⟩
 |ref i=>
  obtain⟨_,rfl,hr⟩:=r.fC;have h:(match g.get i with| .list l=>some l|_=>none)=some l:=h
  cases hg:g.get i with
  |list l'=>rw[hg]at h;obtain rfl:=Option.some.inj h;obtain⟨d,its,nn,r,hm,hrs,hz⟩:=dG Z hg;obtain rfl:=Option.some.inj (hr.symm.trans r);exact⟨_,its,rfl,⟨_,Z.N.get hm,rfl,nn,rfl⟩,hrs,Nat.le_trans (Nat.le_add_right _ _) hz⟩
  |_=>rw[hg]at h;exact aL h
 |_=>exact aL h
noncomputable def Pc(d j:Nat):Option Int->Prop
 |none=>j=d
 |some k=>0<=k/\j=k.toNat
theorem xR{u:Value}{v:V}{d j:Nat}(r:X.RV γ u v)(h:bound d v=some j):∃o,IsPart u o/\Pc d j o:=by
 cases v with
 |none=>obtain rfl:=r.none_inv;exact⟨none,.none,(Option.some.inj h).symm⟩
 |int k=>
  obtain⟨t,rfl⟩:=r.int_inv;have h:(match decide (0<=k)with|true=>some k.toNat|false=>none)=some j:=h
  cases h0:decide (0<=k)with
  |true=>rw[h0]at h;exact⟨some k,.int k t,of_decide_eq_true h0,(Option.some.inj h).symm⟩
  |false=>rw[h0]at h;exact aL h
 |_=>exact aL h
theorem Pd{lo:Option Int}{x len:Nat}(h:Pc 0 x lo):kms_lo lo len=min x len:=by
 cases lo with
 |none=>rw[show x=0 from h,Nat.zero_min];rfl
 |some k=>rw[h.2];exact if_neg (Int.not_lt.mpr h.1)
theorem Pe{hi:Option Int}{y len:Nat}(h:Pc len y hi):kms_hi hi len=min y len:=by
 cases hi with
 |none=>rw[show y=len from h,Nat.min_self];rfl
 |some k=>rw[h.2];exact if_neg (Int.not_lt.mpr h.1)
theorem Ff(vs:List Value){lo hi:Option Int}{x y:Nat}(h1:Pc 0 x lo)(h2:Pc vs.length y hi):kms_pick vs lo hi=(vs.take y).drop x:=by
 unfold kms_pick;rw[Pd h1,Pe h2,kmk_drop_min,List.drop_take];rcases Nat.le_total x vs.length with h|h
 ·rw[Nat.min_eq_left h];rcases Nat.le_total y vs.length with h'|h'
  ·rw[Nat.min_eq_left h']
  ·rw[Nat.min_eq_right h',List.take_of_length_le (Nat.le_of_eq List.length_drop),List.take_of_length_le (List.length_drop▸Nat.sub_le_sub_right h' x)]
 ·rw[List.drop_of_length_le h,List.take_nil,List.take_nil]
noncomputable def dQ(u v:Value):Obj:={cls:=.type "slice",data:=.fields #[u,v,.none]}
inductive Br(X:Cx)(f:Fm)(m:Str->Option Value)(γ:Ga)(g:G)(s:Shared)(u ux uy:Value)(v:V):Prop
 |mk (T:String) (id:String) (hT:({s with heap:=s.heap.push (dQ ux uy)}:Shared).TypeIs u T) (hl:typeLookup (.type T) "__getitem__"=pure (some (.builtin id)))
  (h:∀(Q:Value->Shared->Prop)(E:Value->Shared->Prop),(∀γ' b h' tk,Ext γ γ'->aO X f m γ' g h'->X.RV γ' b v->Q b {s with heap:=h',toks:=tk})->wpAny X.M f.A (getItem u (.ref s.heap.objs.size)) Q E {s with heap:=s.heap.push (dQ ux uy)})
theorem CR(Z:aO X f m γ g s.heap)(O:bB X f n){u:Value}{l:List V}{k:Int}{t:Tok}(ra:X.RV γ u (.tup l))(h0:1<=k)(h1:k.toNat<=l.length):Br X f m γ g s u (.int k t) .none (.tup (l.drop k.toNat)):=by
 obtain⟨d,vs,nn,rfl,ha,hr,hz⟩:=ra.fB;obtain⟨Z4,e4,at4⟩:=Z.push (dQ (.int k t) .none);have ht4:IsTup (s.heap.push (dQ (.int k t) .none)) d vs.toArray:=(iK Z O ha).keeps λ_ _ e=>Heap.get?_push_of_some _ e;have hk:((k.toNat:Nat):Int)=k:=Int.toNat_of_nonneg (Int.le_trans (by decide) h0)
 have hsl:(s.heap.push (dQ (.int k t) .none)).IsSliceOf s.heap.objs.size (.int ((k.toNat:Nat):Int) t) .none .none:=hk.symm▸Heap.IsSliceOf.new ..;refine⟨_,_,ht4.typeIs,PyProof.Rows.slot_tuple_getitem.lookup,λQ E q=>getItem_tuple_from (s:={s with heap:=s.heap.push (dQ (.int k t) .none)}) ht4 hsl ((Int.le_toNat (Int.le_trans (by decide) h0)).mpr h0) (by rw[List.size_toArray,hr.length];exact h1) ?_ (by rw[List.size_toArray,hr.length];exact cZ hz)⟩
 obtain⟨Z5,e5,at5⟩:=aO.push (s:={s with heap:=s.heap.push (dQ (.int k t) .none)}) Z4 (iJ (vs.drop k.toNat) 0)
 exact q _ _ _ s.toks (e4.trans e5) Z5 (.tup at5 (((hr.drop k.toNat).ext e4).ext e5) (Nat.le_trans (List.length_drop▸Nat.sub_le _ _) hz))
theorem CS(Z:aO X f m γ g s.heap)(O:bB X f n){u ux uy:Value}{a x y:V}{l:List V}{i j:Nat}(ra:X.RV γ u a)(rx:X.RV γ ux x)(ry:X.RV γ uy y)(hl:SY g a=some l)(hx:bound 0 x=some i)(hy:bound l.length y=some j):Br X f m γ g s u ux uy (.lst (cut l i j)):=by
 obtain⟨d,vs,rfl,hli,hr,hz⟩:=iL Z O ra hl;obtain⟨ox,px,hox⟩:=xR rx hx;obtain⟨oy,py,hoy⟩:=xR ry hy;obtain⟨Z4,e4,at4⟩:=Z.push (dQ ux uy);have hli4:(s.heap.push (dQ ux uy)).IsList d vs.toArray:=hli.push _;refine⟨_,_,hli4.typeIs,slot_list_getitem.lookup,λQ E q=>wpAny_getItem_list_slice (s:={s with heap:=s.heap.push (dQ ux uy)}) hli4 (Heap.IsSliceOf.new ..) px py .none (λe=>nomatch e) ?_ (by rw[List.size_toArray,hr.length];exact cZ hz)⟩
 have ep:slicePick vs.toArray ox oy none=((vs.take j).drop i).toArray:=(kms_pick_eq ..).trans (congrArg List.toArray (Ff vs hox (hr.length▸hoy)));rw[ep];obtain⟨Z5,e5,at5⟩:=aO.push (s:={s with heap:=s.heap.push (dQ ux uy)}) Z4 (listOf ((vs.take j).drop i).toArray 0)
 exact q _ _ _ s.toks (e4.trans e5) Z5 (.lst at5 ((((hr.take j).drop i).ext e4).ext e5) (Nat.le_trans (List.length_drop▸Nat.sub_le _ _) (Nat.le_trans (List.length_take▸Nat.min_le_right _ _) hz)))
theorem Fi(Z:aO X f m γ g s.heap)(O:bB X f n){u ux uy:Value}{a x y v:V}(ra:X.RV γ u a)(rx:X.RV γ ux x)(ry:X.RV γ uy y)(h:slice g a x y=some v):Br X f m γ g s u ux uy v:=by
 have lst:((SY g a).bind λl=>(bound 0 x).bind λi=>(bound l.length y).map λj=>V.lst (cut l i j))=some v->Br X f m γ g s u ux uy v:=λh=>by obtain⟨l,hl,h⟩:=Option.bind_eq_some_iff.mp h;obtain⟨i,hx,h⟩:=Option.bind_eq_some_iff.mp h;obtain⟨j,hy,rfl⟩:=Option.map_eq_some_iff.mp h;exact CS Z O ra rx ry hl hx hy
 cases a with
 |tup l=>
  clear lst;obtain⟨k,rfl,h⟩:=eU h;obtain⟨t,rfl⟩:=rx.int_inv;have h:=cJ h;cases y with
  |none=>obtain rfl:=ry.none_inv;obtain rfl:=Option.some.inj h.2;exact CR Z O ra (of_decide_eq_true (aj (ak h.1))) (Nat.le_of_ble_eq_true (ak (ak h.1)))
  |_=>exact ff h.1
 |_=>exact lst h
theorem CT{fe:Loc->G->ME->R V}{l:Loc}{k:Nat}{f':Fs}(hf:f'.e=fe){e:ME}{lo hi:Option ME}{p:Expr}{pl ph:Option Expr}{pos spos:Pos}(H:SE X n fe)(O:bB X f n)
  (h2:iN X.K X.C f.scope k e p=true) (h3:E3 (iN X.K X.C f.scope k) lo pl=true) (h4:E3 (iN X.K X.C f.scope k) hi ph=true) (Z:aO X f m γ g s.heap) (hl:X.Ls f γ m l):
  dh X f m (λγ' b a=>X.RV γ' b a) ((fe l g e).bind λa g=>(evo f' l g lo).bind λx g=>(evo f' l g hi).bind λy g=>opt (slice g a x y) g) (eval (.Subscript p (.Slice pl ph none spos) pos) f.env) γ s:=by
 intro Φ Ψ Q E hA hE hQ;refine Subscript_ ?_;refine H f m l g γ s k e p O h2 Z hl _ Ψ _ E (R.All.bind.mp hA) hE λa g1 γ1 u hp1 tk1 hA1 e1 Z1 r1=>?_;refine wpAny_Slice ?_;refine xQ hf H O h3 Z1 (hl.ext e1) _ Ψ _ E (R.All.bind.mp hA1) (hE.at hp1 tk1) λx g2 γ2 ux hp2 tk2 hA2 e2 Z2 r2=>?_;refine xQ (s:={s with heap:=hp2,toks:=tk2}) hf H O h4 Z2 ((hl.ext e1).ext e2) _ Ψ _ E (R.All.bind.mp hA2) (hE.at hp2 tk2) λy g3 γ3 uy hp3 tk3 hA3 e3 Z3 r3=>?_
 refine wpAny_pure ?_;obtain⟨v,hv,hA4⟩:=R.All.opt hA3;obtain⟨T,id,hT,hlk,hw⟩:=Fi (s:={s with heap:=hp3,toks:=tk3}) Z3 O ((r1.ext e2).ext e3) (r2.ext e3) r3 hv
 exact tail_any (s:={s with heap:=hp3.push (dQ ux uy),toks:=tk3}) hT hlk (hw _ _ λγ4 b h' tk e4 Z4 r4=>hQ v g3 γ4 b h' tk hA4 (((e1.trans e2).trans e3).trans e4) Z4 r4) rfl
end
section
variable{X:Cx}{f:Fm}{m:Str->Option Value}{γ:Ga}{g:G}{s:Shared}{n:Nat}
noncomputable def S9(X:Cx)(f:Fm)(m:Str->Option Value)(γ:Ga)(g:G)(s:Shared)(sem:Sem Value)(v:V):Prop:=
 ∀(Q:Value->Shared->Prop)(E:Value->Shared->Prop),(∀γ' uv h' tk,Ext γ γ'->aO X f m γ' g h'->X.RV γ' uv v->Q uv {s with heap:=h',toks:=tk})->wpAny X.M f.A sem Q E s
theorem S9.here(Z:aO X f m γ g s.heap){sem:Sem Value}{uv:Value}{v:V}(r:X.RV γ uv v)(h:∀Q E,(∀tk,Q uv {s with toks:=tk})->wpAny X.M f.A sem Q E s):S9 X f m γ g s sem v:=
 λQ E q=>h Q E λtk=>q γ uv s.heap tk (Ext.refl γ) Z r
theorem z5(a b:S):toS a++toS b=toS (a++b):=by show Str.append _ _=_;unfold Str.append toS;simp
theorem jN(a:S):(toS a).length=a.length:=by show a.toArray.size=_;exact List.size_toArray ..
theorem xS{x:S}(h:((toS x).length==0)=true):x=[]:=by rw[beq_iff_eq,jN]at h;exact List.length_eq_zero_iff.mp h
theorem z6(Z:aO X f m γ g s.heap){t t':Tok}{x y:S}(hz:x.length+y.length<=1000000)(hs1:sok x=true)(hs2:sok y=true):S9 X f m γ g s (binaryOp .Add (.str (toS x) t) (.str (toS y) t')) (.str (x++y)):=by
 intro Q E q;refine P.add_str ?_;by_cases h1:((toS x).length==0)=true
 ·rw[if_pos h1];obtain rfl:=xS h1;exact q γ _ s.heap s.toks (Ext.refl γ) Z (.str _ _ hs2)
 ·rw[if_neg h1];by_cases h2:((toS y).length==0)=true
  ·rw[if_pos h2];obtain rfl:=xS h2;rw[List.append_nil]at q;exact q γ _ s.heap s.toks (Ext.refl γ) Z (.str _ _ hs1)
  ·rw[if_neg h2,z5];exact⟨by rw[jN,List.length_append];exact cZ hz,q γ _ s.heap _ (Ext.refl γ) Z (.str _ _ (zV hs1 hs2))⟩
theorem xT(Z:aO X f m γ g s.heap)(O:bB X f n){u1 u2:Value}{a b v:V}(ra:X.RV γ u1 a)(rb:X.RV γ u2 b)(h:((SY g a).bind λx=>(SY g b).bind λy=>grd (Nat.ble (x.length+y.length) big) (some (V.lst (x++y))))=some v):S9 X f m γ g s (binaryOp .Add u1 u2) v:=by
 obtain⟨x,hx,h⟩:=Option.bind_eq_some_iff.mp h;obtain⟨y,hy,h⟩:=Option.bind_eq_some_iff.mp h;have h:=cJ h;have hz:=Nat.le_of_ble_eq_true h.1;obtain rfl:=Option.some.inj h.2;clear h;obtain⟨d1,vs1,rfl,l1,r1,_⟩:=iL Z O ra hx;obtain⟨d2,vs2,rfl,l2,r2,_⟩:=iL Z O rb hy;clear ra rb hx hy;intro Q E q;refine add_lists Z.F Z.N l1 l2 (λh' F' N'=>?_) (cZ (by rw[r1.length,r2.length];exact hz))
 have fr:∀p∈γ.news,p.1 < s.heap.objs.size:=λp hp=>Heap.lt_size (Z.N p hp).1;exact q _ _ h' s.toks (Ext.push Z.gk) ⟨F',N',Z.gk.push fr⟩ (.lst (At.push Z.gk fr) ((r1.append r2).ext (Ext.push Z.gk)) (by rw[List.length_append];exact hz))
theorem CU(Z:aO X f m γ g s.heap)(O:bB X f n){u1 u2:Value}{a b v:V}(ra:X.RV γ u1 a)(rb:X.RV γ u2 b)(h:S6 g 0 a b=some v):S9 X f m γ g s (binaryOp .Add u1 u2) v:=by
 cases a with
 |int x=>obtain⟨y,rfl,h⟩:=eU h;obtain⟨t,rfl⟩:=ra.int_inv;obtain⟨t',rfl⟩:=rb.int_inv;obtain rfl:=Option.some.inj h;exact S9.here Z (.int _ s.toks) λQ E q=>P.add_int (q _)
 |str x=>obtain⟨y,rfl,h⟩:=jM h;have h:=cJ h;obtain rfl:=Option.some.inj h.2;obtain⟨t,rfl,hs1⟩:=ra.str_inv;obtain⟨t',rfl,hs2⟩:=rb.str_inv;exact z6 Z (Nat.le_of_ble_eq_true h.1) hs1 hs2
 |_=>exact xT Z O ra rb h
theorem mX{G:Value->Value->V->Prop}{φ:Int->Int->Option V}{u1 u2:Value}{a b v:V}(ra:X.RV γ u1 a)(rb:X.RV γ u2 b)(h:onI (λx=>onI (λy=>φ x y) b) a=some v)(H:∀x y t t',φ x y=some v->G (.int x t) (.int y t') v):G u1 u2 v:=by obtain⟨x,rfl,h1⟩:=eU h;obtain⟨y,rfl,h2⟩:=eU h1;obtain⟨t,rfl⟩:=ra.int_inv;obtain⟨t',rfl⟩:=rb.int_inv;exact H x y t t' h2
theorem Fj(Z:aO X f m γ g s.heap)(O:bB X f n){op:Nat}{o:Operator}{u1 u2:Value}{a b v:V}(ho:CK op o=true)(ra:X.RV γ u1 a)(rb:X.RV γ u2 b)(h:S6 g op a b=some v):S9 X f m γ g s (binaryOp o u1 u2) v:=by
 obtain rfl:=Ve (ak ho);match op,ho,h with
 |0,_,h=>exact CU Z O ra rb h
 |1,_,h=>
  exact mX (G:=λu1 u2 v=>S9 X f m γ g s (binaryOp .Sub u1 u2) v) ra rb h λx y t t' h=>by obtain rfl:=Option.some.inj h;exact S9.here Z (.int _ s.toks) λQ E q=>P.sub_int (q _)
 |2,_,h=>
  exact mX (G:=λu1 u2 v=>S9 X f m γ g s (binaryOp .Mult u1 u2) v) ra rb h λx y t t' h=>by have h:=cJ h;obtain rfl:=Option.some.inj h.2;have hz:x.natAbs<=1000000:=of_decide_eq_true h.1;exact S9.here Z (.int _ s.toks) λQ E q=>P.mul_int (q _) (IntMulOk.of_left (intBits_le_64 (by omega) (by omega)))
 |3,_,h=>
  exact mX (G:=λu1 u2 v=>S9 X f m γ g s (binaryOp .FloorDiv u1 u2) v) ra rb h λx y t t' h=>by have h:=cJ h;obtain rfl:=Option.some.inj h.2;exact S9.here Z (.int _ s.toks) λQ E q=>floordiv_int (of_decide_eq_false ((Bool.not_eq_true' _).mp (aj h.1))) (q _) (.inl (PyProof.noPylong_small (of_decide_eq_true (ak h.1))))
 |4,_,h=>
  exact mX (G:=λu1 u2 v=>S9 X f m γ g s (binaryOp .Mod u1 u2) v) ra rb h λx y t t' h=>by have h:=cJ h;obtain rfl:=Option.some.inj h.2;exact S9.here Z (.int _ s.toks) λQ E q=>mod_int' (of_decide_eq_false ((Bool.not_eq_true' _).mp h.1)) (q _)
 |5,_,h=>
  exact mX (G:=λu1 u2 v=>S9 X f m γ g s (binaryOp .LShift u1 u2) v) ra rb h λx y t t' h=>by
   have h:=cJ h;obtain rfl:=Option.some.inj h.2;obtain rfl:=of_decide_eq_true (aj h.1);refine S9.here Z (.int _ s.toks) λQ E q=>lshift_int (of_decide_eq_true (aj (ak h.1))) ?_ ?_
   ·have hy:y<=64:=of_decide_eq_true (ak (ak h.1));have:Builtin.Int.intBits 1=1:=by decide+kernel
    rw[this];omega
   ·rw[Int.one_mul];exact q _
 |_+6,h,_=>exact ff h
theorem Jw{fe:Loc->G->ME->R V}{l:Loc}{k op:Nat}{o:Operator}{a b:ME}{p q:Expr}{pos:Pos}(H:SE X n fe)(O:bB X f n)
  (h2:CK op o=true) (h3:iN X.K X.C f.scope k a p=true) (h4:iN X.K X.C f.scope k b q=true) (Z:aO X f m γ g s.heap) (hl:X.Ls f γ m l):
  dh X f m (λγ' b a=>X.RV γ' b a) ((fe l g a).bind λx g=>(fe l g b).bind λy g=>opt (S6 g op x y) g) (eval (.BinOp p o q pos) f.env) γ s:=by
 intro Φ Ψ Q E hA hE hQ;refine wpAny_BinOp ?_;refine H f m l g γ s k a p O h3 Z hl _ Ψ _ E (R.All.bind.mp hA) hE λx g1 γ1 u h1 tk1 hA1 e1 Z1 r1=>?_;refine H f m l g1 γ1 _ k b q O h4 Z1 (hl.ext e1) _ Ψ _ E (R.All.bind.mp hA1) (hE.at h1 tk1) λy g2 γ2 ui h2' tk2 hA2 e2 Z2 r2=>?_;obtain⟨v,hv,hA3⟩:=R.All.opt hA2;exact Fj (s:={s with heap:=h2',toks:=tk2}) Z2 O h2 (r1.ext e2) r2 hv _ _ λγ' uv h' tk e' Z' r'=>hQ v g2 γ' uv h' tk hA3 ((e1.trans e2).trans e') Z' r'
theorem Jx{fe:Loc->G->ME->R V}{l:Loc}{k:Nat}{a:ME}{p:Expr}{pos:Pos}(H:SE X n fe)(O:bB X f n)
  (h3:iN X.K X.C f.scope k a p=true) (Z:aO X f m γ g s.heap) (hl:X.Ls f γ m l):
  dh X f m (λγ' b a=>X.RV γ' b a) ((fe l g a).bind λx g=>opt (onI (λi=>some (.int (-i))) x) g) (eval (.UnaryOp .USub p pos) f.env) γ s:=by
 intro Φ Ψ Q E hA hE hQ;refine UnaryOp_ ?_;refine H f m l g γ s k a p O h3 Z hl _ Ψ _ E (R.All.bind.mp hA) hE λx g1 γ1 u h1 tk1 hA1 e1 Z1 r1=>?_;clear hA Z hl;obtain⟨v,hv,hA1⟩:=R.All.opt hA1;obtain⟨i,rfl,hv⟩:=eU hv;obtain⟨t,rfl⟩:=r1.int_inv;obtain rfl:=Option.some.inj hv;exact P.neg_int (hQ _ g1 γ1 _ h1 _ hA1 e1 Z1 (.int _ _))
theorem lC(Z:aO X f m γ g s.heap)(O:bB X f n){u:Value}{a:V}{b:Bool}(r:X.RV γ u a)(h:truthy g a=some b){Q:Bool->Shared->Prop}{E:Value->Shared->Prop}(q:∀tk,Q b {s with toks:=tk}):wpAny X.M f.A (PySem.truthy u) Q E s:=by
 have key:(SY g a).map Qx=some b->wpAny X.M f.A (PySem.truthy u) Q E s:=λh=>by
  obtain⟨l,hl,rfl⟩:=Option.map_eq_some_iff.mp h;obtain⟨d,vs,rfl,li,rs,hz⟩:=iL Z O r hl;refine wpAny_truthy_list li (by rw[List.size_toArray,rs.length];exact vL (Int.ofNat_le.mpr hz)) ?_
  have e:(!vs.toArray.isEmpty)=Qx l:=rs.ind (P:=λvs l=>(!vs.toArray.isEmpty)=Qx l) rfl λ_ _ _=>rfl;rw[e];exact q _
 cases a with
 |bool b'=>obtain rfl:=Option.some.inj h;obtain rfl:=r.bool_inv;exact wpAny_truthy_bool (q s.toks)
 |_=>exact key h
end
noncomputable def I3(X:Cx)(n:Nat)(f':Fs):Prop:=
 ∀(f:Fm)(m:Str->Option Value)(l:Loc)(g:G)(γ:Ga)(s:Shared)(k:Nat)(me:ME)(pe:Expr),
  bB X f n->iN X.K X.C f.scope k me pe=true->aO X f m γ g s.heap->X.Ls f γ m l->dh X f m (λ_ b a=>b=a) (tst f' l g me) (isTrue pe f.env (eval pe f.env)) γ s
section
variable{X:Cx}{f:Fm}{m:Str->Option Value}{γ:Ga}{g:G}{s:Shared}{n:Nat}{f':Fs}{l:Loc}{k:Nat}
theorem Bs(H:SE X n f'.e)(O:bB X f n){pos:Pos}:∀{es:List ME}{ps:List Expr}{γ:Ga}{g:G}{s:Shared},BY (iN X.K X.C f.scope k) es ps=true->aO X f m γ g s.heap->X.Ls f γ m l->
  dh X f m (λγ' b a=>X.RV γ' b a) (UH f' l g es) (eval (.BoolOp .And ps pos) f.env) γ s
 |[],_,_,_,_,_,_,_=>dh.stop
 |[e],[q],γ,g,s,c,Z,hl=>by have c':(iN X.K X.C f.scope k e q&&true)=true:=c;rw[Bool.and_true]at c';intro Φ Ψ Q E hA hE hQ;exact BoolOp_one (H f m l g γ s k e q O c' Z hl Φ Ψ Q E hA hE hQ)
 |e::e2::es,q::q2::ps,γ,g,s,c,Z,hl=>by
  have c':(iN X.K X.C f.scope k e q&&BY (iN X.K X.C f.scope k) (e2::es) (q2::ps))=true:=c;rw[Bool.and_eq_true]at c';intro Φ Ψ Q E hA hE hQ;refine BoolOp_and ?_;refine H f m l g γ s k e q O c'.1 Z hl _ Ψ _ E (R.All.bind.mp hA) hE λv g1 γ1 u h1 tk1 hA1 e1 Z1 r1=>?_;cases ht:Mine.truthy g1 v with
  |none=>rw[ht]at hA1;exact hA1.elim
  |some b=>
   rw[ht]at hA1;refine lC (s:={s with heap:=h1,toks:=tk1}) Z1 O r1 ht λtk=>?_
   cases b with
   |false=>exact hQ v g1 γ1 u h1 tk hA1 e1 Z1 r1
   |true=>exact Bs H O (γ:=γ1) (s:={s with heap:=h1,toks:=tk}) c'.2 Z1 (hl.ext e1) Φ Ψ Q E hA1 (hE.at h1 tk) λv' g' γ' u' h' tk' p e' Z' r'=>hQ v' g' γ' u' h' tk' p (e1.trans e') Z' r'
 |[_],[],_,_,_,c,_,_=>ff c
 |[_],_::_::_,_,_,_,c,_,_=>ff (ak c)
 |_::_::_,[],_,_,_,c,_,_=>ff c
 |_::_::_,[_],_,_,_,c,_,_=>ff (ak c)
theorem Fo(H:SE X n f'.e)(O:bB X f n){pos:Pos}:∀{es:List ME}{ps:List Expr}{γ:Ga}{g:G}{s:Shared},BY (iN X.K X.C f.scope k) es ps=true->aO X f m γ g s.heap->X.Ls f γ m l->
  dh X f m (λγ' b a=>X.RV γ' b a) (ors f' l g es) (eval (.BoolOp .Or ps pos) f.env) γ s
 |[],_,_,_,_,_,_,_=>dh.stop
 |[e],[q],γ,g,s,c,Z,hl=>by have c':(iN X.K X.C f.scope k e q&&true)=true:=c;rw[Bool.and_true]at c';intro Φ Ψ Q E hA hE hQ;exact BoolOp_one (H f m l g γ s k e q O c' Z hl Φ Ψ Q E hA hE hQ)
 |e::e2::es,q::q2::ps,γ,g,s,c,Z,hl=>by
  have c':(iN X.K X.C f.scope k e q&&BY (iN X.K X.C f.scope k) (e2::es) (q2::ps))=true:=c;rw[Bool.and_eq_true]at c';intro Φ Ψ Q E hA hE hQ;refine BoolOp_or ?_;refine H f m l g γ s k e q O c'.1 Z hl _ Ψ _ E (R.All.bind.mp hA) hE λv g1 γ1 u h1 tk1 hA1 e1 Z1 r1=>?_;cases ht:Mine.truthy g1 v with
  |none=>rw[ht]at hA1;exact hA1.elim
  |some b=>
   rw[ht]at hA1;refine lC (s:={s with heap:=h1,toks:=tk1}) Z1 O r1 ht λtk=>?_
   cases b with
   |true=>exact hQ v g1 γ1 u h1 tk hA1 e1 Z1 r1
   |false=>exact Fo H O (γ:=γ1) (s:={s with heap:=h1,toks:=tk}) c'.2 Z1 (hl.ext e1) Φ Ψ Q E hA1 (hE.at h1 tk) λv' g' γ' u' h' tk' p e' Z' r'=>hQ v' g' γ' u' h' tk' p (e1.trans e') Z' r'
 |[_],[],_,_,_,c,_,_=>ff c
 |[_],_::_::_,_,_,_,c,_,_=>ff (ak c)
 |_::_::_,[],_,_,_,c,_,_=>ff c
 |_::_::_,[_],_,_,_,c,_,_=>ff (ak c)
theorem Jy(T:I3 X n f')(O:bB X f n){a:ME}{p:Expr}{pos:Pos}(H:SE X n f'.e)
  (h3:iN X.K X.C f.scope k a p=true) (Z:aO X f m γ g s.heap) (hl:X.Ls f γ m l):
  dh X f m (λγ' b a=>X.RV γ' b a) ((tst f' l g a).bind λb g=>.ok (.bool (!b)) g) (eval (.UnaryOp .Not p pos) f.env) γ s:=by
 intro Φ Ψ Q E hA hE hQ;refine UnaryOp_ ?_;have hA:=R.All.bind.mp hA;unfold tst at hA;refine H f m l g γ s k a p O h3 Z hl _ Ψ _ E (R.All.bind.mp hA) hE λx g1 γ1 u h1 tk1 hA1 e1 Z1 r1=>?_;obtain⟨b,hb,hA2⟩:=R.All.opt hA1;exact not_of (lC (s:={s with heap:=h1,toks:=tk1}) Z1 O r1 hb λtk=>hQ _ g1 γ1 _ h1 tk hA2 e1 Z1 (.bool _))
theorem Jz(T:I3 X n f')(H:SE X n f'.e)(O:bB X f n){c a b:ME}{pc pa pb:Expr}{pos:Pos}
  (h1:iN X.K X.C f.scope k c pc=true) (h2:iN X.K X.C f.scope k a pa=true) (h3:iN X.K X.C f.scope k b pb=true) (Z:aO X f m γ g s.heap) (hl:X.Ls f γ m l):
  dh X f m (λγ' b a=>X.RV γ' b a) ((tst f' l g c).bind λt g=>match t with
  |true=>f'.e l g a
  |false=>f'.e l g b) (eval (.IfExp pc pa pb pos) f.env) γ s:=by
 intro Φ Ψ Q E hA hE hQ;refine IfExp_ ?_;refine T f m l g γ s k c pc O h1 Z hl _ Ψ _ E (R.All.bind.mp hA) hE λt g1 γ1 t' hp1 tk1 hA1 e1 Z1 r1=>?_;subst r1;cases t' with
 |true=>exact H f m l g1 γ1 {s with heap:=hp1,toks:=tk1} k a pa O h2 Z1 (hl.ext e1) Φ Ψ Q E hA1 (hE.at hp1 tk1) λv' g' γ' u' h' tk' p e' Z' r'=>hQ v' g' γ' u' h' tk' p (e1.trans e') Z' r'
 |false=>exact H f m l g1 γ1 {s with heap:=hp1,toks:=tk1} k b pb O h3 Z1 (hl.ext e1) Φ Ψ Q E hA1 (hE.at hp1 tk1) λv' g' γ' u' h' tk' p e' Z' r'=>hQ v' g' γ' u' h' tk' p (e1.trans e') Z' r'
theorem Bt{Φ:Bool->G->Prop}{Ψ:Prop}{r:R V}{F:V->G->R V}(Φ':Bool->G->Prop)(h:(r.bind λv g=>(F v g).bind λv g=>opt (Mine.truthy g v) g).All Φ Ψ)
  (hF:∀v g,((F v g).bind λv g=>opt (Mine.truthy g v) g).All Φ Ψ->∃b,Mine.truthy g v=some b/\Φ' b g):(r.bind λv g=>opt (Mine.truthy g v) g).All Φ' Ψ:=by
 refine R.All.bind.mpr ((R.All.bind.mp h).mono (λv g q=>?_) id);obtain⟨b,hb,p⟩:=hF v g q;rw[hb];exact p
theorem TV{α β δ:Type}{F:α->G->R β}{F':β->G->R δ}:∀{r:R α},(r.bind F).bind F'=r.bind λa g=>(F a g).bind F'
 | .ok _ _=>rfl
 | .ex=>rfl
 | .st=>rfl
 | .ask k c=>congrArg (R.ask k) (funext λi=>TV)
theorem Bu(T:I3 X n f')(O:bB X f n){pos:Pos}{whole:Sem Value}:∀{es:List ME}{ps:List Expr}{γ:Ga}{g:G}{s:Shared},BY (iN X.K X.C f.scope k) es ps=true->aO X f m γ g s.heap->X.Ls f γ m l->
  dh X f m (λ_ b a=>b=a) ((UH f' l g es).bind λv g=>opt (Mine.truthy g v) g) (isTrue (.BoolOp .And ps pos) f.env whole) γ s
 |[],_,_,_,_,_,_,_=>dh.stop
 |[e],[q],γ,g,s,c,Z,hl=>by
  have c':(iN X.K X.C f.scope k e q&&true)=true:=c;rw[Bool.and_true]at c';intro Φ Ψ Q E hA hE hQ;refine isTrue_and ?_;refine T f m l g γ s k e q O c' Z hl Φ Ψ _ E hA hE λt g1 γ1 t' hp1 tk1 hA1 e1 Z1 r1=>?_;subst r1;cases t' with
  |true=>exact isTrue_and_nil (hQ true g1 γ1 true hp1 tk1 hA1 e1 Z1 rfl)
  |false=>exact hQ false g1 γ1 false hp1 tk1 hA1 e1 Z1 rfl
 |e::e2::es,q::q2::ps,γ,g,s,c,Z,hl=>by
  have c':(iN X.K X.C f.scope k e q&&BY (iN X.K X.C f.scope k) (e2::es) (q2::ps))=true:=c;rw[Bool.and_eq_true]at c';intro Φ Ψ Q E hA hE hQ;refine isTrue_and ?_;have hA':((f'.e l g e).bind λv g=>(match Mine.truthy g v with|some true=>UH f' l g (e2::es)|some false=>.ok v g|none=>.st).bind λv g=>opt (Mine.truthy g v) g).All Φ Ψ:=by rw[<- TV];exact hA
  have hT:=Bt (λb g=>match b with|true=>((UH f' l g (e2::es)).bind λv g=>opt (Mine.truthy g v) g).All Φ Ψ|false=>Φ false g) hA' λv g' q=>by
   cases ht:Mine.truthy g' v with
   |none=>rw[ht]at q;exact q.elim
   |some b=>
    rw[ht]at q;refine⟨b,rfl,?_⟩;cases b with
    |true=>exact q
    |false=>have q':(opt (Mine.truthy g' v) g').All Φ Ψ:=q;rw[ht]at q';exact q'
  refine T f m l g γ s k e q O c'.1 Z hl _ Ψ _ E hT hE λt g1 γ1 t' hp1 tk1 hA1 e1 Z1 r1=>?_;subst r1;cases t' with
  |true=>exact Bu T O (γ:=γ1) (s:={s with heap:=hp1,toks:=tk1}) c'.2 Z1 (hl.ext e1) Φ Ψ Q E hA1 (hE.at hp1 tk1) λv' g' γ' u' h' tk' p e' Z' r'=>hQ v' g' γ' u' h' tk' p (e1.trans e') Z' r'
  |false=>exact hQ false g1 γ1 false hp1 tk1 hA1 e1 Z1 rfl
 |[_],[],_,_,_,c,_,_=>ff c
 |[_],_::_::_,_,_,_,c,_,_=>ff (ak c)
 |_::_::_,[],_,_,_,c,_,_=>ff c
 |_::_::_,[_],_,_,_,c,_,_=>ff (ak c)
theorem Fp(T:I3 X n f')(O:bB X f n){pos:Pos}{whole:Sem Value}:∀{es:List ME}{ps:List Expr}{γ:Ga}{g:G}{s:Shared},BY (iN X.K X.C f.scope k) es ps=true->aO X f m γ g s.heap->X.Ls f γ m l->
  dh X f m (λ_ b a=>b=a) ((ors f' l g es).bind λv g=>opt (Mine.truthy g v) g) (isTrue (.BoolOp .Or ps pos) f.env whole) γ s
 |[],_,_,_,_,_,_,_=>dh.stop
 |[e],[q],γ,g,s,c,Z,hl=>by
  have c':(iN X.K X.C f.scope k e q&&true)=true:=c;rw[Bool.and_true]at c';intro Φ Ψ Q E hA hE hQ;refine isTrue_or ?_;refine T f m l g γ s k e q O c' Z hl Φ Ψ _ E hA hE λt g1 γ1 t' hp1 tk1 hA1 e1 Z1 r1=>?_;subst r1;cases t' with
  |true=>exact hQ true g1 γ1 true hp1 tk1 hA1 e1 Z1 rfl
  |false=>exact isTrue_or_nil (hQ false g1 γ1 false hp1 tk1 hA1 e1 Z1 rfl)
 |e::e2::es,q::q2::ps,γ,g,s,c,Z,hl=>by
  have c':(iN X.K X.C f.scope k e q&&BY (iN X.K X.C f.scope k) (e2::es) (q2::ps))=true:=c;rw[Bool.and_eq_true]at c';intro Φ Ψ Q E hA hE hQ;refine isTrue_or ?_;have hA':((f'.e l g e).bind λv g=>(match Mine.truthy g v with|some true=>R.ok v g|some false=>ors f' l g (e2::es)|none=>.st).bind λv g=>opt (Mine.truthy g v) g).All Φ Ψ:=by rw[<- TV];exact hA
  have hT:=Bt (λb g=>match b with|false=>((ors f' l g (e2::es)).bind λv g=>opt (Mine.truthy g v) g).All Φ Ψ|true=>Φ true g) hA' λv g' q=>by
   cases ht:Mine.truthy g' v with
   |none=>rw[ht]at q;exact q.elim
   |some b=>
    rw[ht]at q;refine⟨b,rfl,?_⟩;cases b with
    |false=>exact q
    |true=>have q':(opt (Mine.truthy g' v) g').All Φ Ψ:=q;rw[ht]at q';exact q'
  refine T f m l g γ s k e q O c'.1 Z hl _ Ψ _ E hT hE λt g1 γ1 t' hp1 tk1 hA1 e1 Z1 r1=>?_;subst r1;cases t' with
  |false=>exact Fp T O (γ:=γ1) (s:={s with heap:=hp1,toks:=tk1}) c'.2 Z1 (hl.ext e1) Φ Ψ Q E hA1 (hE.at hp1 tk1) λv' g' γ' u' h' tk' p e' Z' r'=>hQ v' g' γ' u' h' tk' p (e1.trans e') Z' r'
  |true=>exact hQ true g1 γ1 true hp1 tk1 hA1 e1 Z1 rfl
 |[_],[],_,_,_,c,_,_=>ff c
 |[_],_::_::_,_,_,_,c,_,_=>ff (ak c)
 |_::_::_,[],_,_,_,c,_,_=>ff c
 |_::_::_,[_],_,_,_,c,_,_=>ff (ak c)
end
mutual
noncomputable def fU:V->PyData
 | .none=>.none
 | .bool b=>.bool b
 | .int i=>.int i
 | .str s=>.str (toS s)
 | .tup l=>.tuple (Tf l)
 | .lst l=>.list (Tf l)
 |_=>.none
noncomputable def Tf:List V->List PyData
 |[]=>[]
 |v::l=>fU v::Tf l
end
theorem JA(a b:S):(toS a==toS b)=As a b:=by
 cases h:As a b with
 |true=>rw[cY.mp h];exact beq_self_eq_true _
 |false=>exact beq_eq_false_iff_ne.mpr λe=>mL.mp h (mK e)
theorem qE{f:V->Bool}(ih:∀(a b:V)(r:Bool),f a=true->f b=true->veq a b=some r->PyData.eqv (fU a) (fU b)=r):
  ∀(x y:List V)(r:Bool),x.all f=true->y.all f=true->Ui x y=some r->PyData.eqvAll (Tf x) (Tf y)=r
 |[],[],_,_,_,h=>Option.some.inj h
 |[],_::_,_,_,_,h=>Option.some.inj h
 |_::_,[],_,_,_,h=>Option.some.inj h
 |a::x,b::y,r,h1,h2,h=>by
  rw[List.all_cons,Bool.and_eq_true]at h1 h2;have h:(match veq a b with
   |some true=>Ui x y
   |some false=>match Ui x y with
    |some _=>some false
    |none=>none
   |none=>none)=some r:=h
  show(PyData.eqv (fU a) (fU b)&&PyData.eqvAll (Tf x) (Tf y))=r;cases e:veq a b with
  |none=>rw[e]at h;exact aL h
  |some q=>
   rw[ih a b q h1.1 h2.1 e];rw[e]at h;cases q with
   |true=>exact qE ih x y r h1.2 h2.2 h
   |false=>
    cases e2:Ui x y with
    |none=>rw[e2]at h;exact aL h
    |some _=>rw[e2]at h;exact Option.some.inj h
noncomputable def Wh(a b:V):Prop:=∀r,veq a b=some r->PyData.eqv (fU a) (fU b)=r
noncomputable def JB:V->Bool
 | .tup _=>true
 | .lst _=>true
 |_=>false
set_option tactic.hygienic true in
theorem xU(a b:V)(h:(JB a&&JB b)=false):Wh a b:=by
 cases a<;>cases b<;>first
  |exact ff h.symm
  |exactλr h=>aL h
  |exactλr h=>Option.some.inj h
  |(rename_i x y;exactλr h=>(show(x==y)=decide (x=y)from rfl).trans (Option.some.inj h))
  |(rename_i x y;exactλr h=>(JA x y).trans (Option.some.inj h))
theorem i8:∀(n:Nat)(a b:V)(r:Bool),vok n a=true->vok n b=true->veq a b=some r->PyData.eqv (fU a) (fU b)=r
 |0,a,b,r,h1,h2,h=>by refine xU a b ?_ r h;cases a<;>first|rfl|exact ff h1
 |n+1,a,b,r,h1,h2,h=>by
  cases q:JB a&&JB b with
  |false=>exact xU a b q r h
  |true=>
   rw[Bool.and_eq_true]at q;cases a<;>first|exact ff q.1|skip
   ·cases b<;>first|exact ff q.2|exact qE (i8 n) _ _ r h1 h2 h|exact Option.some.inj h
   ·cases b<;>first|exact ff q.2|exact qE (i8 n) _ _ r h1 h2 h|exact Option.some.inj h
section
variable{X:Cx}{f:Fm}{m:Str->Option Value}{γ:Ga}{g:G}{s:Shared}{n:Nat}
noncomputable def QZ(h:Heap)(k:Nat)(u:Value)(v:V):Prop:=(∃as,Reads h u (fU v) as)/\(fU v).canLay0=true/\(fU v).depth<=k
noncomputable def Pf(h:Heap)(k:Nat)(us:List Value)(l:List V):Prop:=(∃as,ReadsAll h us (Tf l) as)/\PyData.canLayAll0 (Tf l)=true/\PyData.depthAll (Tf l)<=k
theorem vM{k:Nat}{p:V->Bool}(ih:∀{u:Value}{v:V},p v=true->X.RV γ u v->QZ s.heap k u v):∀{us:List Value}{l:List V},l.all p=true->X.cH γ us l->Pf s.heap k us l
 |_,[],_,r=>by obtain rfl:=r.nil_inv;exact⟨⟨_,.nil⟩,rfl,Nat.zero_le _⟩
 |_,v::l,h,r=>by rw[List.all_cons,Bool.and_eq_true]at h;replace r:=r.cons_inv;obtain⟨_,_,rfl,r1,r2⟩:=r;obtain⟨⟨as,p1⟩,p2,p3⟩:=ih h.1 r1;obtain⟨⟨bs,q1⟩,q2,q3⟩:=vM ih h.2 r2;exact⟨⟨_,.cons p1 q1⟩,Bool.and_eq_true_iff.mpr ⟨p2,q2⟩,Nat.max_le.mpr ⟨p3,q3⟩⟩
theorem Bv{k:Nat}{u:Value}{v:V}(h:vok 0 v=true)(r:X.RV γ u v):QZ s.heap k u v:=by
 cases v<;>first|exact ff h|skip
 ·obtain rfl:=r.none_inv;exact⟨⟨_,.none⟩,rfl,Nat.zero_le _⟩
 ·obtain rfl:=r.bool_inv;exact⟨⟨_,.bool _⟩,rfl,Nat.zero_le _⟩
 ·obtain⟨t,rfl⟩:=r.int_inv;exact⟨⟨_,.int _ _⟩,rfl,Nat.zero_le _⟩
 ·obtain⟨t,rfl,hs⟩:=r.str_inv;exact⟨⟨_,.str _ _⟩,CB hs,Nat.zero_le _⟩
theorem rd(Z:aO X f m γ g s.heap)(O:bB X f n):∀(k:Nat){u:Value}{v:V},vok k v=true->X.RV γ u v->QZ s.heap k u v
 |0,_,_,h,r=>Bv h r
 |k+1,u,v,h,r=>by
  cases q:vok 0 v with
  |true=>exact Bv q r
  |false=>
   cases v<;>first|exact ff q.symm|exact ff h|skip
   ·obtain⟨_,_,_,rfl,ha,hr,_⟩:=r.fB;obtain⟨⟨as,q1⟩,q2,q3⟩:=vM (rd Z O k) h hr;exact⟨⟨_,.tuple (Z.get O ha) rfl rfl q1⟩,q2,Nat.succ_le_succ q3⟩
   ·obtain⟨_,_,_,rfl,ha,hr,_⟩:=r.lst_inv;obtain⟨⟨as,q1⟩,q2,q3⟩:=vM (rd Z O k) h hr;exact⟨⟨_,.list (Z.get O ha) rfl rfl q1⟩,q2,Nat.succ_le_succ q3⟩
theorem rds(Z:aO X f m γ g s.heap)(O:bB X f n)(k:Nat){us:List Value}{l:List V}(h:l.all (vok k)=true)(r:X.cH γ us l):Pf s.heap k us l:=vM (rd Z O k) h r
theorem iM(O:bB X f n){b:Nat}(hb:b<=100):f.A.units+b < cLine:=Nat.lt_of_le_of_lt (Nat.add_le_add (Nat.le_add_right _ _) hb) O.un
theorem vN{a b:Nat}(h:a<=8):1+min a b<=100:=Nat.le_trans (Nat.add_le_add_left (Nat.le_trans (Nat.min_le_left a b) h) 1) (by decide)
theorem vO{a b:V}{r:Bool}(h:deq a b=some r):vok 8 a=true/\vok 8 b=true/\veq a b=some r:=
 have h:=cJ h
 ⟨aj h.1,ak h.1,h.2⟩
theorem Nd(Z:aO X f m γ g s.heap)(O:bB X f n){u u':Value}{a b:V}{r:Bool}(ra:X.RV γ u a)(rb:X.RV γ u' b)(h:deq a b=some r):SeqAt.EqAt f.A.in1 s u u' r:=by obtain⟨h1,h2,h3⟩:=vO h;obtain⟨⟨as,p1⟩,p2,p3⟩:=rd Z O 8 h1 ra;obtain⟨⟨bs,q1⟩,q2,q3⟩:=rd Z O 8 h2 rb;have:=i8 8 a b r h1 h2 h3;rw[<- this];exact SeqAt.eqAt_reads _ _ _ _ _ _ _ _ p1 q1 p2 q2 (by rw[units_in1,Nat.add_assoc];exact iM O (vN p3))
theorem Nf(Z:aO X f m γ g s.heap)(O:bB X f n){u u':Value}{a b:V}{r:Bool}(ra:X.RV γ u a)(rb:X.RV γ u' b)(h:deq a b=some r):
  (∀Q E,Q (.bool r) s->wpAny X.M f.A (compareOp .Eq u u') Q E s)/\(∀Q E,Q (.bool (!r)) s->wpAny X.M f.A (compareOp .NotEq u u') Q E s):=by
 obtain⟨h1,h2,h3⟩:=vO h;obtain⟨⟨as,p1⟩,p2,p3⟩:=rd Z O 8 h1 ra;obtain⟨⟨bs,q1⟩,q2,q3⟩:=rd Z O 8 h2 rb;have e:=i8 8 a b r h1 h2 h3;have hu:f.A.units+64 < cLine:=iM O (by decide)
 have sa:SeqAt.shaped (fU a)=true:=by unfold SeqAt.shaped;rw[p2,Bool.true_and];exact decide_eq_true (Nat.le_trans p3 (by decide))
 have sb:SeqAt.shaped (fU b)=true:=by unfold SeqAt.shaped;rw[q2,Bool.true_and];exact decide_eq_true (Nat.le_trans q3 (by decide))
 exact⟨λQ E q=>eq_dataH p1 q1 sa sb hu (by rw[e];exact q),λQ E q=>ne_dataH p1 q1 sa sb hu (by rw[e];exact q)⟩
theorem vP{x:V}(hx:vok 8 x=true):∀{l:List V}{r:Bool},l.all (vok 8)=true->vin x l=some r->((Tf l).any λy=>PyData.eqv y (fU x))=r
 |[],_,_,h=>Option.some.inj h
 |y::l,r,hl,h=>by
  rw[List.all_cons,Bool.and_eq_true]at hl;have h:(match veq y x with
   |some true=>some true
   |some false=>vin x l
   |none=>none)=some r:=h
  show(PyData.eqv (fU y) (fU x)||(Tf l).any λy=>PyData.eqv y (fU x))=r
  cases e:veq y x with
  |none=>rw[e]at h;exact aL h
  |some q=>
   rw[i8 8 y x q hl.1 hx e];rw[e]at h;cases q with
   |true=>exact Option.some.inj h
   |false=>exact vP hx hl.2 h
theorem Bw{x:V}{l:List V}{r:Bool}(h:din x l=some r):vok 8 x=true/\l.all (vok 8)=true/\vin x l=some r:=
 have h:=cJ h
 ⟨aj h.1,ak h.1,h.2⟩
noncomputable def JC(X:Cx)(f:Fm)(s:Shared)(u u':Value)(r:Bool):Prop:=
 (∀(Q:Value->Shared->Prop)(E:Value->Shared->Prop),(∀tk,Q (.bool r) {s with toks:=tk})->wpAny X.M f.A (compareOp .In u u') Q E s)/\(∀(Q:Value->Shared->Prop)(E:Value->Shared->Prop),(∀tk,Q (.bool (!r)) {s with toks:=tk})->wpAny X.M f.A (compareOp .NotIn u u') Q E s)
theorem xV(Z:aO X f m γ g s.heap)(O:bB X f n){u:Value}{x:V}{d:Addr}{vs:List Value}{l:List V}{r:Bool}(hd:s.heap.IsList d (List.toArray vs))(rs:X.cH γ vs l)(rx:X.RV γ u x)(h:din x l=some r):JC X f s u (.ref d) r:=by
 obtain⟨h1,h2,h3⟩:=Bw h;obtain⟨⟨as,p1⟩,p2,p3⟩:=rd Z O 8 h1 rx;obtain⟨⟨bs,q1⟩,q2,q3⟩:=rds Z O 8 h2 rs;have e:=vP h1 h2 h3;have hu:f.A.units+1+min (PyData.depthAll (Tf l)) (fU x).depth < cLine:=by rw[Nat.add_assoc];exact iM O (vN q3)
 obtain⟨o,ho,hc,k,hdt⟩:=hd;have rc:Reads s.heap (.ref d) (.list (Tf l)) (d::bs):=.list ho hc hdt q1;exact⟨λQ E q=>SeqAt.in_list_reads rc p1 q2 p2 hu (by rw[e];exact q s.toks),λQ E q=>SeqAt.notIn_list_reads rc p1 q2 p2 hu (by rw[e];exact q s.toks)⟩
theorem Bx(Z:aO X f m γ g s.heap)(O:bB X f n){u:Value}{x:V}{d:Addr}{vs:List Value}{l:List V}{r:Bool}(hd:IsTup s.heap d (List.toArray vs))(rs:X.cH γ vs l)(rx:X.RV γ u x)(h:din x l=some r):JC X f s u (.ref d) r:=by
 obtain⟨h1,h2,h3⟩:=Bw h;obtain⟨⟨as,p1⟩,p2,p3⟩:=rd Z O 8 h1 rx;obtain⟨⟨bs,q1⟩,q2,q3⟩:=rds Z O 8 h2 rs;have e:=vP h1 h2 h3;have hu:f.A.units+1+min (PyData.depthAll (Tf l)) (fU x).depth < cLine:=by rw[Nat.add_assoc];exact iM O (vN q3)
 obtain⟨o,ho,hc,k,hdt⟩:=hd;have rc:Reads s.heap (.ref d) (.tuple (Tf l)) bs:=.tuple ho hc hdt q1;exact⟨λQ E q=>SeqAt.in_tuple_reads rc p1 q2 p2 hu (by rw[e];exact q s.toks),λQ E q=>SeqAt.notIn_tuple_reads rc p1 q2 p2 hu (by rw[e];exact q s.toks)⟩
theorem jg(KO:fY X)(Z:aO X f m γ g s.heap)(O:bB X f n){a:Addr}{o:Obj}(h:(a,o)∈γ.news):(a==sysModules)=false:=by refine beq_eq_false_iff_ne.mpr λe=>?_;obtain⟨o',ho⟩:=KO.one;have h1:=(Z.N _ h).2.2;have h2:=O.X₀ _ _ ho;rw[show a=1 from e,h2]at h1;cases h1
theorem qF(KO:fY X)(Z:aO X f m γ g s.heap)(O:bB X f n){a:Addr}{o:Obj}{kvs:List (Str×Value)}{l:List (S×V)}(hm:(a,o)∈γ.news)(hd:o.IsDictOf (strKind X.prog X.w) kvs)(hr:X.gR γ kvs l)(k:S)(t:Tok):
  JC X f s (.str (toS k) t) (.ref a) (SX l k).isSome:=by
 have hD:s.heap.DictOf (strKind X.prog X.w) a kvs:=Heap.dictOf_iff.mpr ⟨o,Z.N.get hm,hd⟩;have e:(valueAt kvs (toS k)).isSome=(SX l k).isSome:=by
  have q:=hr.valueAt k;cases h:SX l k with
  |none=>rw[h]at q;dsimp only at q;rw[q];rfl
  |some y=>rw[h]at q;obtain⟨u,hu,_⟩:=q;rw[hu];rfl
 refine⟨λQ E q=>wpAny_in_of (tW k t) (jg KO Z O hm) hD.mapOf ?_,λQ E q=>wpAny_notIn_of (tW k t) (jg KO Z O hm) hD.mapOf ?_⟩
 ·rw[e];exact q _
 ·rw[e];exact q _
theorem o8(KO:fY X)(Z:aO X f m γ g s.heap)(O:bB X f n){u u':Value}{x y:V}{r:Bool}(rx:X.RV γ u x)(ry:X.RV γ u' y)(h:Mine.contains g x y=some r):JC X f s u u' r:=by
 cases y with
 |tup l=>obtain⟨_,_,_,rfl,ha,hr,_⟩:=ry.fB;exact Bx Z O (iK Z O ha) hr rx h
 |lst l=>obtain⟨_,_,_,rfl,ha,hr,_⟩:=ry.lst_inv;exact xV Z O (lB Z O ha) hr rx h
 |dct l=>obtain⟨_,_,_,rfl,hm,_,hd,hr,_⟩:=ry.lz;obtain⟨k,rfl,h⟩:=jM h;obtain⟨t,rfl,_⟩:=rx.str_inv;obtain rfl:=Option.some.inj h;exact qF KO Z O hm hd hr _ t
 |ref i=>
  obtain⟨_,rfl,hr⟩:=ry.fC;cases qa h with
  |list l hg h=>obtain⟨d,its,nn,r,hm,hrs,hz⟩:=dG Z hg;obtain rfl:=Option.some.inj (hr.symm.trans r);exact xV Z O ⟨_,Z.N.get hm,rfl,nn,rfl⟩ hrs rx h
  |dict tab ord hg h=>obtain⟨k,rfl,h⟩:=jM h;obtain⟨t,rfl,_⟩:=rx.str_inv;obtain⟨d,o,kvs,ll,r,hm,hd,hp,ho,ht⟩:=cU Z hg;obtain rfl:=Option.some.inj (hr.symm.trans r);obtain rfl:=Option.some.inj h;rw[ht.1];exact qF KO Z O hm hd hp _ t
 |_=>exact aL h
theorem Ng:∀{a b:S},llt a b=decide (a < b):=λ{a}=>by
 induction a with
 |nil=>exactλ{b}=>match b with
  |[]=>rfl
  |_::_=>(decide_eq_true (List.nil_lt_cons _ _)).symm
 |cons a x ih=>exactλ{b}=>match b with
  |[]=>(decide_eq_false (List.not_lt_nil _)).symm
  |b::y=>by
   show(match Nat.beq a b with|true=>llt x y|false=>Nat.blt a b)=_
   rw[Bool.eq_iff_iff,decide_eq_true_eq,List.cons_lt_cons_iff];cases h:Nat.beq a b with
   |true=>obtain rfl:=Nat.eq_of_beq_eq_true h;dsimp only;rw[ih,decide_eq_true_eq];exact⟨λq=>.inr ⟨rfl,q⟩,λq=>q.elim (λq=>absurd q (Nat.lt_irrefl _)) And.right⟩
   |false=>dsimp only;rw[Nat.blt_eq];exact⟨.inl,λq=>q.elim id λq=>absurd q.1 (Nat.ne_of_beq_eq_false h)⟩
end
section
variable{X:Cx}{f:Fm}{m:Str->Option Value}{γ:Ga}{g:G}{s:Shared}{n:Nat}
theorem JD(Z:aO X f m γ g s.heap)(O:bB X f n){ta tb:List (S×Option V)}{kb:List (Str×Value)}{lb:List (S×V)}(hb:X.gR γ kb lb)(htb:∀k,S3 tb k=SX lb k){ka:List (Str×Value)}{la:List (S×V)}(hr:X.gR γ ka la):
  (∀p∈la,S3 ta p.1=some p.2)->∀r,UA ta tb (la.map (·.1))=some r->KeqHits f.A.in1 s kb ka r:=
 hr.ind (P:=λka la=>(∀p∈la,S3 ta p.1=some p.2)->∀r,UA ta tb (la.map (·.1))=some r->KeqHits f.A.in1 s kb ka r) (λ_ r h=>Option.some.inj h▸.nil) λ{k u x us la} hk hv hr ih ht r h=>by
  have e1:S3 ta k=some x:=ht (k,x) (.head _);have h:(match S3 ta k,S3 tb k with
   |some x,some y=>match deq x y,UA ta tb (la.map (·.1))with
    |some c,some d=>some (c&&d)
    |_,_=>none
   |_,_=>some false)=some r:=h
  have qb:=hb.mO k;rw[<- htb]at qb;rw[e1]at h;cases e2:S3 tb k with
  |none=>rw[e2]at h qb;obtain rfl:=Option.some.inj h;exact .miss qb
  |some y=>
   rw[e2]at h qb;obtain⟨u',hu,ru⟩:=qb;dsimp only at h;cases e3:deq x y with
   |none=>rw[e3]at h;exact aL h
   |some c=>
    cases e4:UA ta tb (la.map (·.1))with
    |none=>rw[e3,e4]at h;exact aL h
    |some d=>rw[e3,e4]at h;obtain rfl:=Option.some.inj h;exact .hit hu (Nd Z O hv ru e3) (ih (λp hp=>ht p (.tail _ hp)) d e4)
theorem sV{l:List (S×V)}(h:(l.map (·.1)).Nodup):∀p∈l,SX l p.1=some p.2:=by
 induction l with
 |nil=>exactλp hp=>nomatch hp
 |cons q l ih=>
  have h:=List.nodup_cons.mp h;intro p hp;rcases List.mem_cons.mp hp with rfl|m
  ·exact fW rfl
  ·rw[dY λe=>h.1 (List.mem_map.mpr ⟨p,m,e.symm⟩)];exact ih h.2 p m
noncomputable def Nh(X:Cx)(f:Fm)(s:Shared)(u u':Value)(r:Bool):Prop:=
 (∀(Q:Value->Shared->Prop)(E:Value->Shared->Prop),Q (.bool r) s->wpAny X.M f.A (compareOp .Eq u u') Q E s)/\(∀(Q:Value->Shared->Prop)(E:Value->Shared->Prop),Q (.bool (!r)) s->wpAny X.M f.A (compareOp .NotEq u u') Q E s)
theorem lD{ka:List (Str×Value)}{la:List (S×V)}(h:X.gR γ ka la):ka.length=la.length:=by have:=congrArg List.length h.keys;rw[List.length_map,List.length_map]at this;exact this
theorem CV{o:Obj}{ka:List (Str×Value)}{la:List (S×V)}(hd:o.IsDictOf (strKind X.prog X.w) ka)(h:X.gR γ ka la):(la.map (·.1)).Nodup:=by
 obtain⟨es,k,_,_,_,hn⟩:=jL hd;rw[h.keys,show(la.map λp=>toS p.1)=(la.map (·.1)).map toS by rw[List.map_map];rfl]at hn
 exact(List.pairwise_map.mp hn).imp λh e=>h (congrArg toS e)
theorem Fq(KO:fY X)(Z:aO X f m γ g s.heap)(O:bB X f n){u u':Value}{i j:Nat}{ta tb:List (S×Option V)}{oa ob:List S}{r:Bool}(rx:X.RV γ u (.ref i))(ry:X.RV γ u' (.ref j))(ha:g.get i=.dict ta oa)(hb:g.get j=.dict tb ob)
  (h:(match Nat.beq oa.length ob.length with|true=>UA ta tb oa|false=>some false)=some r):Nh X f s u u' r:=by
 obtain⟨_,rfl,hra⟩:=rx.fC;obtain⟨_,rfl,hrb⟩:=ry.fC;obtain⟨da,oa',ka,la,r1,hma,hda,hpa,rfl,hta⟩:=cU Z ha;obtain⟨db,ob',kb,lb,r2,hmb,hdb,hpb,rfl,htb⟩:=cU Z hb;obtain rfl:=Option.some.inj (hra.symm.trans r1);obtain rfl:=Option.some.inj (hrb.symm.trans r2);clear rx ry hra hrb r1 r2 ha hb;have key:∃r',(ka.length=kb.length->KeqHits f.A.in1 s kb ka r')/\(ka.length==kb.length&&r')=r:=by
  rw[List.length_map,List.length_map,<- lD hpa,<- lD hpb]at h;cases hq:Nat.beq ka.length kb.length with
  |true=>rw[hq]at h;exact⟨r,λ_=>JD Z O hpb htb.1 hpa (λp hp=>(hta.1 p.1).trans (sV (CV hda hpa) p hp)) r h,by rw[beq_iff_eq.mpr (Nat.eq_of_beq_eq_true hq)];rfl⟩
  |false=>rw[hq]at h;exact⟨false,λz=>absurd z (Nat.ne_of_beq_eq_false hq),by rw[<- Option.some.inj h,Bool.and_false]⟩
 obtain⟨r',hh,hr⟩:=key;have Da:s.heap.DictOf (strKind X.prog X.w) _ ka:=Heap.dictOf_iff.mpr ⟨oa',Z.N.get hma,hda⟩;have Db:s.heap.DictOf (strKind X.prog X.w) _ kb:=Heap.dictOf_iff.mpr ⟨ob',Z.N.get hmb,hdb⟩;have hu:f.A.units < cLine:=iM O (Nat.zero_le _);exact⟨λQ E q=>keq_eq (jg KO Z O hma) (jg KO Z O hmb) Da Db hu hh (by rw[hr];exact q),λQ E q=>keq_ne (jg KO Z O hma) (jg KO Z O hmb) Da Db hu hh (by rw[hr];exact q)⟩
theorem Ft(Z:aO X f m γ g s.heap)(O:bB X f n){u u':Value}{a:V}{l l':List V}{r:Bool}(rx:X.RV γ u a)(ry:X.RV γ u' (.lst l'))(hl:SY g a=some l)(h:deq (.lst l) (.lst l')=some r):Nh X f s u u' r:=by
 obtain⟨d,vs,rfl,li,rs,hz⟩:=iL Z O rx hl;obtain⟨h1,h2,h3⟩:=vO h;obtain⟨⟨as,p1⟩,p2,p3⟩:=rds Z O 7 h1 rs;obtain⟨⟨bs,q1⟩,q2,q3⟩:=rd Z O 8 h2 ry;have e:=i8 8 _ _ r h1 h2 h3;have hu:f.A.units+64 < cLine:=iM O (by decide)
 obtain⟨o,ho,hc,k,hdt⟩:=li;have rc:Reads s.heap (.ref d) (fU (.lst l)) (d::as):=.list ho hc hdt p1;have sa:SeqAt.shaped (fU (.lst l))=true:=kj p2 (decide_eq_true (Nat.le_trans (Nat.succ_le_succ p3) (by decide)))
 have sb:SeqAt.shaped (fU (.lst l'))=true:=kj q2 (decide_eq_true (Nat.le_trans q3 (by decide)))
 exact⟨λQ E q=>eq_dataH rc q1 sa sb hu (by rw[e];exact q),λQ E q=>ne_dataH rc q1 sa sb hu (by rw[e];exact q)⟩
theorem Fv(KO:fY X)(Z:aO X f m γ g s.heap)(O:bB X f n){u u':Value}{x y:V}{r:Bool}(rx:X.RV γ u x)(ry:X.RV γ u' y)(h:geq g x y=some r):Nh X f s u u' r:=by
 cases x with
 |ref i=>
  cases y with
  |ref j=>
   cases qa h with
   |list l hg h=>exact aL h
   |dict ta oa ha h=>cases qa h with
    |list l hg h=>exact aL h
    |dict tb ob hb h=>exact Fq KO Z O rx ry ha hb h
  |lst l'=>obtain⟨l,hl,h⟩:=Option.bind_eq_some_iff.mp h;exact Ft Z O rx ry hl h
  |_=>exact aL h
 |_=>exact Nf Z O rx ry h
theorem tZ{u:Value}{x:V}(r:X.RV γ u x):(u==Value.none)=isNone x:=
 RV.casesOn (motive_1:=λu x _=>(u==Value.none)=isNone x) r rfl (λ_=>rfl) (λ_ _=>rfl) (λ_ _ _=>rfl) (λ_ _ _=>rfl) (λ_ _ _=>rfl) (λ_ _ _ _ _=>rfl) (λ_ _=>rfl) (λ_=>rfl) (λ_=>rfl) (λ_=>rfl)
theorem qG{x:V}(h:isNone x=true):x=.none:=by
 cases x with
 |none=>rfl
 |_=>exact ff h
noncomputable def xW(X:Cx)(f:Fm)(s:Shared)(o:CmpOp)(u u':Value)(r:Bool):Prop:=
 ∀(Q:Value->Shared->Prop)(E:Value->Shared->Prop),(∀tk,Q (.bool r) {s with toks:=tk})->wpAny X.M f.A (compareOp o u u') Q E s
theorem Mh(a b:Int):decide (b<=a)=!decide (a < b):=by
 by_cases h:a < b
 ·rw[decide_eq_true h,decide_eq_false (Int.not_le.mpr h)];rfl
 ·rw[decide_eq_false h,decide_eq_true (Int.not_lt.mp h)];rfl
inductive Q2(X:Cx)(f:Fm)(s:Shared)(u u':Value)(r:Bool):Prop
 |mk (lt:xW X f s .Lt u u' r) (ge:xW X f s .GtE u u' (!r)) (gt:xW X f s .Gt u' u r) (le:xW X f s .LtE u' u (!r))
theorem vQ{u u':Value}{x y:V}{r:Bool}(rx:X.RV γ u x)(ry:X.RV γ u' y)(h:vlt x y=some r):Q2 X f s u u' r:=by
 cases x with
 |int a=>obtain⟨b,rfl,h⟩:=eU h;obtain rfl:=Option.some.inj h;obtain⟨t,rfl⟩:=rx.int_inv;obtain⟨t',rfl⟩:=ry.int_inv;exact⟨λQ E q=>P.lt_int (q s.toks),λQ E q=>P.ge_int ((Mh a b).symm▸q s.toks),λQ E q=>P.gt_int (q s.toks),λQ E q=>P.le_int ((Mh a b).symm▸q s.toks)⟩
 |str a=>obtain⟨b,rfl,h⟩:=jM h;obtain rfl:=Option.some.inj h;obtain⟨t,rfl,_⟩:=rx.str_inv;obtain⟨t',rfl,_⟩:=ry.str_inv;have e:(decide ((toS a).cps.toList < (toS b).cps.toList))=llt a b:=Ng.symm;exact⟨λQ E q=>P.lt_str (by rw[e];exact q s.toks),λQ E q=>P.ge_str (by rw[e];exact q s.toks),λQ E q=>P.gt_str (by rw[e];exact q s.toks),λQ E q=>P.le_str (by rw[e];exact q s.toks)⟩
 |_=>exact aL h
theorem oB(KO:fY X)(Z:aO X f m γ g s.heap)(O:bB X f n){op:Nat}{o:CmpOp}{u u':Value}{x y:V}{r:Bool}(ho:lU op o=true)(rx:X.RV γ u x)(ry:X.RV γ u' y)(h:SI g op x y=some r):xW X f s o u u' r:=by
 obtain rfl:=E6 (ak ho);have neg:∀{o:Option Bool}{P:Prop},o.map (!·)=some r->(∀r',o=some r'->(!r')=r->P)->P:=λh k=>
  let ⟨r',hr,e⟩:=Option.map_eq_some_iff.mp h
  k r' hr e
 match op,ho,h with
 |0,_,h=>exactλQ E q=>(Fv KO Z O rx ry h).1 Q E (q s.toks)
 |1,_,h=>exact neg h λr' hr e=>e▸λQ E q=>(Fv KO Z O rx ry hr).2 Q E (q s.toks)
 |2,_,h=>exact(vQ rx ry h).1
 |3,_,h=>exact neg h λr' hr e=>e▸(vQ ry rx hr).4
 |4,_,h=>exact(vQ ry rx h).3
 |5,_,h=>exact neg h λr' hr e=>e▸(vQ rx ry hr).2
 |6,_,h=>have h:=cJ h;obtain rfl:=qG h.1;obtain rfl:=ry.none_inv;exactλQ E q=>is_none_gen (by rw[tZ rx,Option.some.inj h.2];exact q s.toks)
 |7,_,h=>have h:=cJ h;obtain rfl:=qG h.1;obtain rfl:=ry.none_inv;exactλQ E q=>isnot_none_gen (by rw[tZ rx,Option.some.inj h.2];exact q s.toks)
 |8,_,h=>exact(o8 KO Z O rx ry h).1
 |9,_,h=>exact neg h λr' hr e=>e▸(o8 KO Z O rx ry hr).2
 |_+10,h,_=>exact ff h
theorem JE(KO:fY X){fe:Loc->G->ME->R V}{l:Loc}{k op:Nat}{o:CmpOp}{a b:ME}{p q:Expr}{pos:Pos}(H:SE X n fe)(O:bB X f n)
  (h1:lU op o=true) (h2:behindInMarks o q=false) (h3:iN X.K X.C f.scope k a p=true) (h4:iN X.K X.C f.scope k b q=true) (Z:aO X f m γ g s.heap) (hl:X.Ls f γ m l):
  dh X f m (λγ' b a=>X.RV γ' b a) ((fe l g a).bind λx g=>(fe l g b).bind λy g=>opt ((SI g op x y).map .bool) g) (eval (.Compare p [o] [q] pos) f.env) γ s:=by
 intro Φ Ψ Q E hA hE hQ;refine wpAny_Compare1 ?_ h2;refine H f m l g γ s k a p O h3 Z hl _ Ψ _ E (R.All.bind.mp hA) hE λx g1 γ1 u hp1 tk1 hA1 e1 Z1 r1=>?_;refine H f m l g1 γ1 _ k b q O h4 Z1 (hl.ext e1) _ Ψ _ E (R.All.bind.mp hA1) (hE.at hp1 tk1) λy g2 γ2 ui hp2 tk2 hA2 e2 Z2 r2=>?_;obtain⟨v,hv,hA3⟩:=R.All.opt hA2;obtain⟨r,hr,rfl⟩:=Option.map_eq_some_iff.mp hv;exact oB (s:={s with heap:=hp2,toks:=tk2}) KO Z2 O h1 (r1.ext e2) r2 hr _ _ λtk=>hQ _ g2 γ2 _ hp2 tk hA3 (e1.trans e2) Z2 (.bool r)
theorem JF(KO:fY X){f':Fs}{l:Loc}{k op:Nat}{o:CmpOp}{a b:ME}{p q:Expr}{pos:Pos}{whole:Sem Value}(H:SE X n f'.e)(O:bB X f n)
  (h1:lU op o=true) (h2:behindInMarks o q=false) (h3:iN X.K X.C f.scope k a p=true) (h4:iN X.K X.C f.scope k b q=true) (Z:aO X f m γ g s.heap) (hl:X.Ls f γ m l):
  dh X f m (λ_ b a=>b=a) (((f'.e l g a).bind λx g=>(f'.e l g b).bind λy g=>opt ((SI g op x y).map .bool) g).bind λv g=>opt (Mine.truthy g v) g) (isTrue (.Compare p [o] [q] pos) f.env whole) γ s:=by
 intro Φ Ψ Q E hA hE hQ;refine wpAny_isTrue_Compare1 ?_ h2;refine H f m l g γ s k a p O h3 Z hl _ Ψ _ E (R.All.bind.mp (R.All.bind.mp hA)) hE λx g1 γ1 u hp1 tk1 hA1 e1 Z1 r1=>?_;refine H f m l g1 γ1 _ k b q O h4 Z1 (hl.ext e1) _ Ψ _ E (R.All.bind.mp hA1) (hE.at hp1 tk1) λy g2 γ2 ui hp2 tk2 hA2 e2 Z2 r2=>?_;obtain⟨v,hv,hA3⟩:=R.All.opt hA2;obtain⟨r,hr,rfl⟩:=Option.map_eq_some_iff.mp hv;exact oB (s:={s with heap:=hp2,toks:=tk2}) KO Z2 O h1 (r1.ext e2) r2 hr _ _ λtk=>wpAny_truthy_bool (hQ r g2 γ2 _ hp2 tk hA3 (e1.trans e2) Z2 rfl)
theorem Fw(KO:fY X){fe:Loc->G->ME->R V}{l:Loc}{k o1 o2:Nat}{q1 q2:CmpOp}{a b c:ME}{p r1 r2:Expr}{pos:Pos}(H:SE X n fe)(O:bB X f n)
  (h1:lU o1 q1=true) (h1':lU o2 q2=true) (h2:lastMarks [q1,q2] [r1,r2]=false) (h3:iN X.K X.C f.scope k a p=true) (h4:iN X.K X.C f.scope k b r1=true) (h5:iN X.K X.C f.scope k c r2=true) (Z:aO X f m γ g s.heap) (hl:X.Ls f γ m l):
  dh X f m (λγ' b a=>X.RV γ' b a) ((fe l g a).bind λx g=>(fe l g b).bind λy g=>match SI g o1 x y with
  |some true=>(fe l g c).bind λz g=>opt ((SI g o2 y z).map .bool) g
  |some false=>.ok (.bool false) g
  |none=>.st) (eval (.Compare p [q1,q2] [r1,r2] pos) f.env) γ s:=by
 intro Φ Ψ Q E hA hE hQ;refine Compare_chain ?_ h2;refine H f m l g γ s k a p O h3 Z hl _ Ψ _ E (R.All.bind.mp hA) hE λx g1 γ1 u hp1 tk1 hA1 e1 Z1 rr1=>?_;refine chain_link ?_;refine H f m l g1 γ1 _ k b r1 O h4 Z1 (hl.ext e1) _ Ψ _ E (R.All.bind.mp hA1) (hE.at hp1 tk1) λy g2 γ2 ui hp2 tk2 hA2 e2 Z2 rr2=>?_;cases hc:SI g2 o1 x y with
 |none=>rw[hc]at hA2;exact hA2.elim
 |some b1=>
  rw[hc]at hA2;refine oB (s:={s with heap:=hp2,toks:=tk2}) KO Z2 O h1 (rr1.ext e2) rr2 hc _ _ λtk=>wpAny_truthy_bool ?_
  cases b1 with
  |false=>exact hQ _ g2 γ2 _ hp2 tk hA2 (e1.trans e2) Z2 (.bool false)
  |true=>refine chain_last ?_;refine H f m l g2 γ2 _ k c r2 O h5 Z2 ((hl.ext e1).ext e2) _ Ψ _ E (R.All.bind.mp hA2) (hE.at hp2 tk) λz g3 γ3 uj hp3 tk3 hA3 e3 Z3 rr3=>?_;obtain⟨v,hv,hA4⟩:=R.All.opt hA3;obtain⟨r,hr,rfl⟩:=Option.map_eq_some_iff.mp hv;exact oB (s:={s with heap:=hp3,toks:=tk3}) KO Z3 O h1' (rr2.ext e3) rr3 hr _ _ λtk=>hQ _ g3 γ3 _ hp3 tk hA4 ((e1.trans e2).trans e3) Z3 (.bool r)
theorem Fx(KO:fY X){f':Fs}{l:Loc}{k o1 o2:Nat}{q1 q2:CmpOp}{a b c:ME}{p r1 r2:Expr}{pos:Pos}{whole:Sem Value}(H:SE X n f'.e)(O:bB X f n)
  (h1:lU o1 q1=true) (h1':lU o2 q2=true) (h2:lastMarks [q1,q2] [r1,r2]=false) (h3:iN X.K X.C f.scope k a p=true) (h4:iN X.K X.C f.scope k b r1=true) (h5:iN X.K X.C f.scope k c r2=true) (Z:aO X f m γ g s.heap) (hl:X.Ls f γ m l):
  dh X f m (λ_ b a=>b=a) (((f'.e l g a).bind λx g=>(f'.e l g b).bind λy g=>match SI g o1 x y with
  |some true=>(f'.e l g c).bind λz g=>opt ((SI g o2 y z).map .bool) g
  |some false=>.ok (.bool false) g
  |none=>.st).bind λv g=>opt (Mine.truthy g v) g) (isTrue (.Compare p [q1,q2] [r1,r2] pos) f.env whole) γ s:=by
 intro Φ Ψ Q E hA hE hQ;refine isTrue_chain ?_ h2;refine H f m l g γ s k a p O h3 Z hl _ Ψ _ E (R.All.bind.mp (R.All.bind.mp hA)) hE λx g1 γ1 u hp1 tk1 hA1 e1 Z1 rr1=>?_;refine test_link ?_;refine H f m l g1 γ1 _ k b r1 O h4 Z1 (hl.ext e1) _ Ψ _ E (R.All.bind.mp hA1) (hE.at hp1 tk1) λy g2 γ2 ui hp2 tk2 hA2 e2 Z2 rr2=>?_;cases hc:SI g2 o1 x y with
 |none=>rw[hc]at hA2;exact hA2.elim
 |some b1=>
  rw[hc]at hA2;refine oB (s:={s with heap:=hp2,toks:=tk2}) KO Z2 O h1 (rr1.ext e2) rr2 hc _ _ λtk=>wpAny_truthy_bool ?_
  cases b1 with
  |false=>exact hQ _ g2 γ2 _ hp2 tk hA2 (e1.trans e2) Z2 rfl
  |true=>refine test_last ?_;refine H f m l g2 γ2 _ k c r2 O h5 Z2 ((hl.ext e1).ext e2) _ Ψ _ E (R.All.bind.mp hA2) (hE.at hp2 tk) λz g3 γ3 uj hp3 tk3 hA3 e3 Z3 rr3=>?_;obtain⟨v,hv,hA4⟩:=R.All.opt hA3;obtain⟨r,hr,rfl⟩:=Option.map_eq_some_iff.mp hv;exact oB (s:={s with heap:=hp3,toks:=tk3}) KO Z3 O h1' (rr2.ext e3) rr3 hr _ _ λtk=>wpAny_truthy_bool (hQ _ g3 γ3 _ hp3 tk hA4 ((e1.trans e2).trans e3) Z3 rfl)
end
section
variable{X:Cx}{f:Fm}{m:Str->Option Value}{γ:Ga}{g:G}{s:Shared}{n:Nat}
theorem Fy{k:Nat}{pos:Pos}(Z:aO X f m γ g s.heap):dh X f m (λγ' b a=>X.RV γ' b a) (.ok .none g) (eval (.Constant .none k pos) f.env) γ s:=
 dh.ret Z .none λQ E h=>Constant_none h
theorem CW{b:Bool}{k:Nat}{pos:Pos}(Z:aO X f m γ g s.heap):dh X f m (λγ' b a=>X.RV γ' b a) (.ok (.bool b) g) (eval (.Constant (.bool b) k pos) f.env) γ s:=
 dh.ret Z (.bool b) λQ E h=>Constant_bool h
theorem Fz{i:Int}{k:Nat}{pos:Pos}(Z:aO X f m γ g s.heap):dh X f m (λγ' b a=>X.RV γ' b a) (.ok (.int i) g) (eval (.Constant (.int i) k pos) f.env) γ s:=
 dh.O8 Z (.int i _) λQ E h=>wpAny_Constant_int h
theorem FA{x:S}(hx:sok x=true){k:Nat}{pos:Pos}(Z:aO X f m γ g s.heap):dh X f m (λγ' b a=>X.RV γ' b a) (.ok (.str x) g) (eval (.Constant (.str (toS x)) k pos) f.env) γ s:=
 dh.O8 Z (.str x _ hx) λQ E h=>wpAny_Constant_str h
theorem fE(KO:fY X)(Z:aO X f m γ g s.heap)(O:bB X f n){y:Str}{pos:Pos}{v:Value}(hy:y∈bis)(hv:bootBuiltins y=some v)(hg:b7 f.scope y=true){Q:Value->Shared->Prop}{E:Value->Shared->Prop}(h:Q v s)(hn:y≠"__name__":=by decide):
  wpAny X.M f.A (eval (.Name y pos) f.env) Q E s:=
 nameX_B Z.F O.X₀ (topRead_of O.T) (KO.bi y hy) hv hn h O.kind (fD hg).1 (fD hg).2
theorem qH{K:Frag}{C:Cfg}{sc:Scope}{k:Nat}{pos:Pos}{env:Env}{es:List ME}:∀{ps:List Expr},BY (iN K C sc k) es ps=true->(backTo pos (starEach ps env)).any (·.1)=false:=by
 induction es with
 |nil=>exactλ{ps} c=>match ps with
  |[]=>rfl
  |_::_=>ff c
 |cons e es ih=>exactλ{ps} c=>match ps with
  |[]=>ff c
  |q::ps=>by rw[aE (bC (aj c))];exact ih (ak c)
theorem xX{fe:Loc->G->ME->R V}{l:Loc}{k:Nat}{e:ME}{p:Expr}{id:String}{pos:Pos}(H:SE X n fe)(O:bB X f n)(h4:iN X.K X.C f.scope k e p=true)(Z:aO X f m γ g s.heap)(hl:X.Ls f γ m l)
  {Φ:V->G->Prop} {Ψ:Prop} {Q:Value->Shared->Prop} {E:Value->Shared->Prop} (hA:(fe l g e).All Φ Ψ) (hE:vH X f m E Ψ s)
  (h:∀v g1 γ1 u h1 tk,Φ v g1->Ext γ γ1->aO X f m γ1 g1 h1->X.RV γ1 u v->wpAny X.M f.A (call (.builtin id) [u]) Q E {s with heap:=h1,toks:=tk}):
  wpAny X.M f.A (callWith pos (.builtin id) [] (backTo pos (starEach [p] f.env)) []) Q E s:=by
 refine PyProof.Rows.callWith_builtin1 ?_ (aE (bC h4)) rfl;rw[aE (bC h4)];refine AS ?_;exact H f m l g γ s k e p O h4 Z hl Φ Ψ _ E hA hE λv g1 γ1 u h1 tk p e1 Z1 r=>wpAny_pure (h v g1 γ1 u h1 tk p e1 Z1 r)
theorem xY{fe:Loc->G->ME->R V}{l:Loc}{k:Nat}{e:ME}{p:Expr}{id:String}{pos:Pos}(H:SE X n fe)(O:bB X f n)(h4:iN X.K X.C f.scope k e p=true)(Z:aO X f m γ g s.heap)(hl:X.Ls f γ m l)
  {Φ:V->G->Prop} {Ψ:Prop} {Q:Value->Shared->Prop} {E:Value->Shared->Prop} (hA:(fe l g e).All Φ Ψ) (hE:vH X f m E Ψ s)
  (h:∀v g1 γ1 u h1 tk,Φ v g1->Ext γ γ1->aO X f m γ1 g1 h1->X.RV γ1 u v->wpAny X.M f.A (call (.type id) [u]) Q E {s with heap:=h1,toks:=tk}):
  wpAny X.M f.A (callWith pos (.type id) [] (backTo pos (starEach [p] f.env)) []) Q E s:=by
 refine PyProof.Rows.callWith_type1 ?_ (aE (bC h4)) rfl;rw[aE (bC h4)];refine AS ?_;exact H f m l g γ s k e p O h4 Z hl Φ Ψ _ E hA hE λv g1 γ1 u h1 tk p e1 Z1 r=>wpAny_pure (h v g1 γ1 u h1 tk p e1 Z1 r)
theorem Ni(Z:aO X f m γ g s.heap)(O:bB X f n){u:Value}{v:V}{j:Nat}(r:X.RV γ u v)(h:VQ g v=some j){Q:Value->Shared->Prop}{E:Value->Shared->Prop}(q:∀t tk,Q (.int j t) {s with toks:=tk}):wpAny X.M f.A (call (.builtin "len") [u]) Q E s:=by
 have lst:(SY g v).map List.length=some j->wpAny X.M f.A (call (.builtin "len") [u]) Q E s:=λh=>by
  obtain⟨vs,hvs,rfl⟩:=Option.map_eq_some_iff.mp h;obtain⟨d,us,rfl,li,rs,hz⟩:=iL Z O r hvs;refine PyProof.Rows.len_list li (by rw[List.size_toArray,rs.length];exact vL (Int.ofNat_le.mpr hz)) ?_
  rw[List.size_toArray,rs.length];exact q _ _
 cases v with
 |tup l=>
  obtain rfl:=Option.some.inj h;obtain⟨_,_,_,rfl,ha,hr,hz⟩:=r.fB;refine PyProof.Rows.len_tuple (iK Z O ha) (by rw[List.size_toArray,hr.length];exact vL (Int.ofNat_le.mpr hz)) ?_
  rw[List.size_toArray,hr.length];exact q _ _
 |str x=>
  have h:=cJ h;obtain rfl:=Option.some.inj h.2;obtain⟨t,rfl,_⟩:=r.str_inv;refine P.len_str (by rw[jN];exact Int.not_le.mpr (vL (Int.ofNat_le.mpr (Nat.le_of_ble_eq_true h.1)))) ?_
  rw[jN];exact q _ _
 |_=>exact lst h
theorem JG(KO:fY X){fe:Loc->G->ME->R V}{l:Loc}{k:Nat}{e:ME}{p:Expr}{y:Str}{np pos:Pos}(H:SE X n fe)(O:bB X f n)
  (hy:y="len") (hg:b7 f.scope y=true) (h4:iN X.K X.C f.scope k e p=true) (Z:aO X f m γ g s.heap) (hl:X.Ls f γ m l):
  dh X f m (λγ' b a=>X.RV γ' b a) ((fe l g e).bind λv g=>opt ((VQ g v).map λ(k:Nat)=>V.int k) g) (eval (.Call (.Name y np) [p] [] pos) f.env) γ s:=by
 subst hy;intro Φ Ψ Q E hA hE hQ;refine Call_Name rfl (fE KO Z O (by decide) PyProof.Rows.Boot.«len» hg ?_)
 refine xX H O h4 Z hl (R.All.bind.mp hA) hE λv g1 γ1 u h1 tk hA1 e1 Z1 r1=>?_;obtain⟨v',hv,hA1⟩:=R.All.opt hA1;obtain⟨j,hj,rfl⟩:=Option.map_eq_some_iff.mp hv;exact Ni (s:={s with heap:=h1,toks:=tk}) Z1 O r1 hj λt tk'=>hQ _ g1 γ1 _ h1 tk' hA1 e1 Z1 (.int _ t)
theorem Nj(i:Int):(if i < 0 then -i else i)=(i.natAbs:Int):=by split<;>omega
theorem JH(KO:fY X){fe:Loc->G->ME->R V}{l:Loc}{k:Nat}{e:ME}{p:Expr}{y:Str}{np pos:Pos}(H:SE X n fe)(O:bB X f n)
  (hy:y="abs") (hg:b7 f.scope y=true) (h4:iN X.K X.C f.scope k e p=true) (Z:aO X f m γ g s.heap) (hl:X.Ls f γ m l):
  dh X f m (λγ' b a=>X.RV γ' b a) ((fe l g e).bind λv g=>opt (onI (λi=>some (.int i.natAbs)) v) g) (eval (.Call (.Name y np) [p] [] pos) f.env) γ s:=by
 subst hy;intro Φ Ψ Q E hA hE hQ;refine Call_Name rfl (fE KO Z O (by decide) PyProof.Rows.Boot.«abs» hg ?_)
 refine xX H O h4 Z hl (R.All.bind.mp hA) hE λv g1 γ1 u h1 tk hA1 e1 Z1 r1=>?_;obtain⟨v',hv,hA1⟩:=R.All.opt hA1;obtain⟨i,rfl,hv⟩:=eU hv;obtain⟨t,rfl⟩:=r1.int_inv;obtain rfl:=Option.some.inj hv;exact PyProof.Rows.call_abs_int (s:={s with heap:=h1,toks:=tk}) λu tk'=>(Nj i).symm▸hQ _ g1 γ1 _ h1 _ hA1 e1 Z1 (.int _ _)
theorem JI{kvs:List (Str×Value)}{l:List (S×V)}(h:X.gR γ kvs l):∀{C:List Value->Prop},(∀us,X.cH γ us (l.map λp=>V.str p.1)->C us)->KdlKeysS kvs C:=
 h.ind (P:=λkvs l=>∀{C:List Value->Prop},(∀us,X.cH γ us (l.map λ(p:S×V)=>V.str p.1)->C us)->KdlKeysS kvs C) (λh=>h [] .nil) @λk u x us l hk hv hr ih C h t=>ih λus r=>h (.str (toS k) t::us) (.cons (.str k t hk) r)
theorem qI(Z:aO X f m γ g s.heap){Q:Value->Shared->Prop}{us:List Value}{vs:List V}(q:∀γ' uv h' tk,Ext γ γ'->aO X f m γ' g h'->X.RV γ' uv (.lst vs)->Q uv {s with heap:=h',toks:=tk}){D:Addr}{c:Nat}{h':Heap}{tk:Nat}(rs:X.cH γ us vs)(hz:vs.length<=1000000)
  (F':Fr f.h₀ f.L h' m) (N':News f.h₀ f.L h' ((D,PySem.W.listOf us.toArray c)::γ.news)) (fr:∀q∈γ.news,q.1 < D):Q (.ref D) {s with heap:=h',toks:=tk}:=
 q (γ.push D _) _ h' tk (Ext.push Z.gk) ⟨F',N',Z.gk.push fr⟩ (.lst (At.push Z.gk fr) (rs.ext (Ext.push Z.gk)) hz)
theorem Ux(Z:aO X f m γ g s.heap)(O:bB X f n){u:Value}{v:V}{vs:List V}(r:X.RV γ u v)(h:SY g v=some vs):S9 X f m γ g s (call (.type "list") [u]) (.lst vs):=by obtain⟨d,us,rfl,li,rs,hz⟩:=iL Z O r h;exactλQ E q=>list_copyK Z.F Z.N li (λD c h' F' N' fr=>qI Z q rs hz F' N' fr) (cZ (by rw[List.size_toArray,rs.length];exact hz))
theorem uc(KO:fY X)(Z:aO X f m γ g s.heap)(O:bB X f n){d:Addr}{o:Obj}{kvs:List (Str×Value)}{l:List (S×V)}(hm:(d,o)∈γ.news)(hd:o.IsDictOf (strKind X.prog X.w) kvs)(hp:X.gR γ kvs l)(hz:l.length<=100):S9 X f m γ g s (call (.type "list") [.ref d]) (.lst (l.map λp=>.str p.1)):=
 λQ E q=>kdl_list_keysS O.hh Z.F Z.N hm hd (jg KO Z O hm) (by rw[lD hp];exact Nat.le_trans hz (by decide)) λB c h' tk'=>JI hp λus rs F' N' fr=>qI Z q rs (by rw[List.length_map];exact Nat.le_trans hz (by decide)) F' N' fr
theorem JJ(KO:fY X)(Z:aO X f m γ g s.heap)(O:bB X f n){u:Value}{v:V}{vs:List V}(r:X.RV γ u v)(h:gz g v=some vs):S9 X f m γ g s (call (.type "list") [u]) (.lst vs):=by
 cases v with
 |lst l=>exact Ux Z O r h
 |tup l=>obtain rfl:=Option.some.inj h;obtain⟨_,_,_,rfl,ha,hr,hz⟩:=r.fB;exactλQ E q=>list_copyKT Z.F Z.N (iK Z O ha) (λD c h' F' N' fr=>qI Z q hr hz F' N' fr) (cZ (by rw[List.size_toArray,hr.length];exact hz))
 |dct l=>obtain rfl:=Option.some.inj h;obtain⟨_,_,_,rfl,hm,hnm,hd,hr,hz⟩:=r.lz;exact uc KO Z O hm hd hr hz
 |ref i=>
  have h1:(match g.get i with| .list l=>some l| .dict _ ord=>some (ord.map V.str)|_=>none)=some vs:=h
  cases hg:g.get i with
  |list l=>rw[hg]at h1;exact Ux Z O r ((tQ hg).trans h1)
  |dict tab ord=>rw[hg]at h1;obtain rfl:=Option.some.inj h1;obtain⟨_,rfl,hr⟩:=r.fC;obtain⟨d,o,kvs,ll,r,hm,hd,hp,rfl,ht⟩:=cU Z hg;obtain rfl:=Option.some.inj (hr.symm.trans r);rw[List.map_map];exact uc KO Z O hm hd hp ht.le
  |_=>rw[hg]at h1;exact aL h1
 |_=>exact aL h
theorem FD(KO:fY X){fe:Loc->G->ME->R V}{l:Loc}{k:Nat}{e:ME}{p:Expr}{y:Str}{np pos:Pos}(H:SE X n fe)(O:bB X f n)
  (hy:y="list") (hg:b7 f.scope y=true) (h4:iN X.K X.C f.scope k e p=true) (Z:aO X f m γ g s.heap) (hl:X.Ls f γ m l):
  dh X f m (λγ' b a=>X.RV γ' b a) ((fe l g e).bind λv g=>opt ((gz g v).map .lst) g) (eval (.Call (.Name y np) [p] [] pos) f.env) γ s:=by
 subst hy;intro Φ Ψ Q E hA hE hQ;refine Call_Name rfl (fE KO Z O (by decide) PyProof.Rows.Boot.«list» hg ?_)
 refine xY H O h4 Z hl (R.All.bind.mp hA) hE λv g1 γ1 u h1 tk hA1 e1 Z1 r1=>?_;obtain⟨v',hv,hA2⟩:=R.All.opt hA1;obtain⟨vs,hvs,rfl⟩:=Option.map_eq_some_iff.mp hv;exact JJ (s:={s with heap:=h1,toks:=tk}) KO Z1 O r1 hvs _ _ λγ' uv h' tk' e' Z' r'=>hQ _ g1 γ' uv h' tk' hA2 (e1.trans e') Z' r'
end
section
variable{X:Cx}{f:Fm}{m:Str->Option Value}{γ:Ga}{g:G}{s:Shared}{n:Nat}
noncomputable def JK(X:Cx)(f:Fm)(s:Shared)(u t:Value)(b:Bool):Prop:=∀(Q:Value->Shared->Prop)(E:Value->Shared->Prop),(∀tk,Q (.bool b) {s with toks:=tk})->wpAny X.M f.A (call (.builtin "isinstance") [u,t]) Q E s
inductive BA(X:Cx)(f:Fm)(s:Shared)(u:Value)(kk:Nat):Prop
 |mk (d:JK X f s u (.type "dict") (Nat.land kk 1 != 0)) (l:JK X f s u (.type "list") (Nat.land kk 2 != 0)) (t:JK X f s u (.type "tuple") (Nat.land kk 4 != 0))
  (a:∀(a:Addr)(k:Nat),s.heap.get? a=some (iJ [.type "tuple",.type "list",.type "dict"] k)->JK X f s u (.ref a) (Nat.land kk 7 != 0))
theorem z7{o:Obj}{kvs:List (Str×Value)}(h:o.IsDictOf (strKind X.prog X.w) kvs):o.cls=.type "dict":=by obtain⟨es,k,rfl,_⟩:=jL h;rfl
noncomputable def Q3(K:Frag)(t:Value):Option Bool×Option Bool×Option Bool×Option Bool:=(kitOne K t (.type "dict"),kitOne K t (.type "list"),kitOne K t (.type "tuple"),kitAny K t [.type "tuple",.type "list",.type "dict"])
noncomputable def Q4(kk:Nat):Option Bool×Option Bool×Option Bool×Option Bool:=(some (Nat.land kk 1 != 0),some (Nat.land kk 2 != 0),some (Nat.land kk 4 != 0),some (Nat.land kk 7 != 0))
theorem mh{u t:Value}{H:Heap->Prop}{kk:Nat}(Zk:KitX X.K u t H)(KI:X.K.In s.heap)(p:H s.heap)(hx:u≠.builtin "__main__.__loader__#opaque")(h:Q3 X.K t=Q4 kk):BA X f s u kk:=
 ⟨λQ E q=>kia_one Zk KI p (congrArg (·.1) h) hx q,λQ E q=>kia_one Zk KI p (congrArg (·.2.1) h) hx q,λQ E q=>kia_one Zk KI p (congrArg (·.2.2.1) h) hx q,λa k ha Q E q=>kia_tup Zk KI p ha (congrArg (·.2.2.2) h) hx q⟩
theorem qJ{a:Addr}(Z:aO X f m γ g s.heap)(O:bB X f n)(k:KitAt a "list" s.heap):BA X f s (.ref a) 2:=mh kitx_list (O.X₀.keeps Z.F.keep) k (λe=>nomatch e) (by kernel_rfl)
theorem xZ{a:Addr}{o:Obj}{kvs:List (Str×Value)}(Z:aO X f m γ g s.heap)(O:bB X f n)(hm:(a,o)∈γ.news)(hd:o.IsDictOf (strKind X.prog X.w) kvs):BA X f s (.ref a) 1:=
 mh kitx_dict (O.X₀.keeps Z.F.keep) (show KitAt a "dict" s.heap from⟨_,Z.N.get hm,z7 hd⟩) (λe=>nomatch e) (by kernel_rfl)
theorem vR(Z:aO X f m γ g s.heap)(O:bB X f n){u:Value}{v:V}{kk:Nat}(r:X.RV γ u v)(h:kindOf g v=some kk):BA X f s u kk:=by
 have KI:X.K.In s.heap:=O.X₀.keeps Z.F.keep;cases v with
 |none=>obtain rfl:=r.none_inv;exact Option.some.inj h▸mh kitx_none KI trivial (λe=>nomatch e) (by kernel_rfl)
 |bool b=>obtain rfl:=r.bool_inv;exact Option.some.inj h▸mh kitx_bool KI trivial (λe=>nomatch e) (by kernel_rfl)
 |int i=>obtain⟨t,rfl⟩:=r.int_inv;exact Option.some.inj h▸mh kitx_int KI trivial (λe=>nomatch e) (by kernel_rfl)
 |str x=>obtain⟨t,rfl,_⟩:=r.str_inv;exact Option.some.inj h▸mh kitx_str KI trivial (λe=>nomatch e) (by kernel_rfl)
 |tup l=>obtain⟨_,_,_,rfl,ha,_,_⟩:=r.fB;exact Option.some.inj h▸mh kitx_tuple KI (show KitAt _ "tuple" s.heap from⟨_,Z.get O ha,rfl⟩) (λe=>nomatch e) (by kernel_rfl)
 |lst l=>obtain⟨_,_,_,rfl,ha,_,_⟩:=r.lst_inv;exact Option.some.inj h▸qJ Z O ⟨_,Z.get O ha,rfl⟩
 |dct l=>obtain⟨_,_,_,rfl,hm,_,hd,_,_⟩:=r.lz;exact Option.some.inj h▸xZ Z O hm hd
 |ref i=>
  obtain⟨a,rfl,hr⟩:=r.fC;have h:(match g.get i with| .list _=>some 2| .dict _ _=>some 1|_=>none)=some kk:=h
  cases hg:g.get i with
  |list l=>rw[hg]at h;obtain⟨d,its,nn,r,hm,hrs,hz⟩:=dG Z hg;obtain rfl:=Option.some.inj (hr.symm.trans r);exact Option.some.inj h▸qJ Z O ⟨_,Z.N.get hm,rfl⟩
  |dict tab ord=>rw[hg]at h;obtain⟨d,o,kvs,ll,r,hm,hd,hp,ho,ht⟩:=cU Z hg;obtain rfl:=Option.some.inj (hr.symm.trans r);exact Option.some.inj h▸xZ Z O hm hd
  |_=>rw[hg]at h;exact aL h
 |jl=>obtain⟨_,rfl,hj⟩:=r.E1;obtain⟨its,k,hm,_⟩:=Z.gk.ju _ hj;exact Option.some.inj h▸qJ Z O ⟨_,Z.N.get hm,rfl⟩
 |_=>exact aL h
theorem FE:bootBuiltins "isinstance"=some (.builtin "isinstance"):=by kernel_rfl
theorem x6:bootBuiltins "tuple"=some (.type "tuple"):=by kernel_rfl
theorem Uy:bootBuiltins "dict"=some (.type "dict"):=by kernel_rfl
@[elab_as_elim] theorem JL{sc:Scope}{G:List Expr->Prop}{l:List Expr}(h:Vz sc l=true)(H:∀p1 p2 p3,b7 sc "tuple"=true->b7 sc "list"=true->b7 sc "dict"=true->G [.Name "tuple" p1,.Name "list" p2,.Name "dict" p3]):G l:=match l,h with
 |[a,b,c],h=>fX (G:=λa=>G [a,b,c]) (aj h) λp1 g1=>fX (G:=λb=>G [.Name "tuple" p1,b,c]) (aj (ak h)) λp2 g2=>fX (G:=λc=>G [.Name "tuple" p1,.Name "list" p2,c]) (ak (ak h)) λp3 g3=>H p1 p2 p3 g1 g2 g3
theorem FF{sc:Scope}{mask:Nat}{q:Expr}(h:Jp sc mask q=true):Tu q=true:=match mask,h with
 |1,h=>fX (e:=q) (h:Tv sc "dict" q=true) λ_ _=>rfl
 |2,h=>fX (e:=q) (h:Tv sc "list" q=true) λ_ _=>rfl
 |4,h=>fX (e:=q) (h:Tv sc "tuple" q=true) λ_ _=>rfl
 |7,h=>gX (x:=q) (h:TS (Vz sc) q=true) λ_ _ _ _=>rfl
theorem JM(KO:fY X){mask kk:Nat}{q:Expr}{u:Value}{v:V}(Z:aO X f m γ g s.heap)(O:bB X f n)(r:X.RV γ u v)(hk:kindOf g v=some kk)(hq:Jp f.scope mask q=true){Q:Value->Shared->Prop}{E:Value->Shared->Prop}
  (h:∀γ' h' tk,Ext γ γ'->aO X f m γ' g h'->Q (.bool (Nat.land kk mask != 0)) {s with heap:=h',toks:=tk}):wpAny X.M f.A (eval q f.env) (λt s'=>wpAny X.M f.A (call (.builtin "isinstance") [u,t]) Q E s') E s:=by
 have fin:∀tk,Q (.bool (Nat.land kk mask != 0)) {s with toks:=tk}:=λtk=>h γ s.heap tk (Ext.refl γ) Z
 match mask,hq,h,fin with
 |1,hq,_,fin=>exact fX (e:=q) (hq:Tv f.scope "dict" q=true) λp hg=>fE KO Z O (by decide) Uy hg ((vR Z O r hk).1 _ _ fin)
 |2,hq,_,fin=>exact fX (e:=q) (hq:Tv f.scope "list" q=true) λp hg=>fE KO Z O (by decide) PyProof.Rows.Boot.«list» hg ((vR Z O r hk).2 _ _ fin)
 |4,hq,_,fin=>exact fX (e:=q) (hq:Tv f.scope "tuple" q=true) λp hg=>fE KO Z O (by decide) x6 hg ((vR Z O r hk).3 _ _ fin)
 |7,hq,h,_=>
  refine gX (x:=q) (hq:TS (Vz f.scope) q=true) λl kq p hq=>?_;refine Tuple_ (k:=kq) ?_;refine JL hq λp1 p2 p3 h1 h2 h3=>?_;refine AS (fE KO Z O (by decide) x6 h1 ?_)
  refine AS (fE KO Z O (by decide) PyProof.Rows.Boot.«list» h2 ?_)
  refine AS (fE KO Z O (by decide) Uy h3 ?_)
  refine wpAny_pure ?_;refine newTuple_N Z.F Z.N (λh' F' N'=>?_) (cZ (Nat.le_of_ble_eq_true rfl));have fr:∀p∈γ.news,p.1 < s.heap.objs.size:=λp hp=>Heap.lt_size (Z.N p hp).1;have Z2:aO X f m (γ.push s.heap.objs.size _) g h':=⟨F',N',Z.gk.push fr⟩;exact(vR (s:={s with heap:=h'}) Z2 O (r.ext (Ext.push Z.gk)) hk).4 s.heap.objs.size 0 (Z2.N.get (.head _)) _ _ λtk'=>h _ h' tk' (Ext.push Z.gk) Z2
theorem JN(KO:fY X){fe:Loc->G->ME->R V}{l:Loc}{k mask:Nat}{e:ME}{p q:Expr}{y:Str}{np pos:Pos}(H:SE X n fe)(O:bB X f n)
  (hy:y="isinstance") (hg:b7 f.scope y=true) (hq:Jp f.scope mask q=true) (h4:iN X.K X.C f.scope k e p=true) (Z:aO X f m γ g s.heap) (hl:X.Ls f γ m l):
  dh X f m (λγ' b a=>X.RV γ' b a) ((fe l g e).bind λv g=>opt ((kindOf g v).map λk=>.bool (Nat.land k mask != 0)) g) (eval (.Call (.Name y np) [p,q] [] pos) f.env) γ s:=by
 subst hy;intro Φ Ψ Q E hA hE hQ;refine Call_Name rfl (fE KO Z O (by decide) FE hg ?_)
 have nq:=FF hq;refine PyProof.Rows.callWith_builtin1 ?_ (aE (bC h4)) (by rw[aE nq];rfl)
 rw[aE (bC h4),aE nq];refine AS ?_;refine H f m l g γ s k e p O h4 Z hl _ Ψ _ E (R.All.bind.mp hA) hE λv g1 γ1 u h1 tk hA1 e1 Z1 r1=>?_;clear hA Z hl;obtain⟨v',hv,hA2⟩:=R.All.opt hA1;obtain⟨kk,hk,rfl⟩:=Option.map_eq_some_iff.mp hv;exact AS (wpAny_mono (JM (s:={s with heap:=h1,toks:=tk}) KO Z1 O r1 hk hq λγ' h' tk' e' Z'=>hQ _ g1 γ' _ h' tk' hA2 (e1.trans e') Z' (.bool _)) (λt s' q=>wpAny_pure q) λ_ _ q=>q)
theorem cH.rep{us:List Value}{l:List V}(r:X.cH γ us l)(k:Nat):X.cH γ (List.flatten (List.replicate k us)) (rep k l):=by
 induction k with
 |zero=>exact .nil
 |succ k ih=>rw[List.replicate_succ,List.flatten_cons];exact r.append ih
theorem CX(k:Nat)(us:List Value):∀acc:List Value,(List.replicate k us.toArray).foldl (·++·) acc.toArray=(acc++List.flatten (List.replicate k us)).toArray:=by
 induction k with
 |zero=>exactλacc=>by rw[List.replicate_zero,List.replicate_zero,List.flatten_nil,List.append_nil];rfl
 |succ k ih=>exactλacc=>by rw[List.replicate_succ,List.foldl_cons,List.append_toArray,ih (acc++us),List.replicate_succ,List.flatten_cons,List.append_assoc]
theorem z8(k:Nat)(l:List V):(rep k l).length=k * l.length:=by
 induction k with
 |zero=>rw[Nat.zero_mul];rfl
 |succ k ih=>show(l++rep k l).length=_;rw[List.length_append,ih,Nat.succ_mul,Nat.add_comm]
theorem CY{a b:Nat}(h:(a+1) * b<=1000):a * b<=1000/\b<=1000:=by rw[Nat.succ_mul]at h;exact⟨Nat.le_trans (Nat.le_add_right _ _) h,Nat.le_trans (Nat.le_add_left _ _) h⟩
theorem Nk(Z:aO X f m γ g s.heap)(O:bB X f n){u:Value}{vs:List V}{i:Int}{t:Tok}{q:Nat}{Φ:V->G->Prop}{Ψ:Prop}(r:X.RV γ u (.lst vs))(h0:0<=i)(hz:(vs.length+1) * i.toNat<=1000)(hA:(g.alloc q (.list (rep i.toNat vs))).All Φ Ψ)
  {Q:Value->Shared->Prop} {E:Value->Shared->Prop} (h:∀u h',Vg X f m Φ γ h' u->Q u {s with heap:=h'}):wpAny X.M f.A (binaryOp .Mult u (.int i t)) Q E s:=by
 obtain⟨d,us,kk,rfl,ha,hr,_⟩:=r.lst_inv;obtain⟨b1,b2⟩:=CY hz;obtain⟨hfree,hA⟩:=jA hA;have hget:s.heap.get? d=some {cls:=.type "list",data:=.seq us.toArray kk}:=Z.get O ha;refine PyProof.Rows.mul_list Z.F Z.N hget ?_ ?_ ?_ λh' F' N'=>?_
 ·omega
 ·omega
 ·rw[List.size_toArray,hr.length];omega
 have ea:(List.replicate (if us.toArray.isEmpty=true then 0 else i.toNat) us.toArray).foldl (λx1 x2=>x1++x2) #[]=(List.flatten (List.replicate i.toNat us)).toArray:=by
  cases us with
  |nil=>rw[show List.flatten (List.replicate i.toNat ([]:List Value))=[]from List.flatten_eq_nil_iff.mpr λl hl=>(List.mem_replicate.mp hl).2];rfl
  |cons u us=>exact CX i.toNat (u::us) []
 rw[ea]at N';have fr:∀p∈γ.news,p.1 < s.heap.objs.size:=λp hp=>Heap.lt_size (Z.N p hp).1;have ex:=Ext.alloc (o:=PySem.W.listOf (List.flatten (List.replicate i.toNat us)).toArray 0) Z.gk fr (Z.gk.cell _ _ hfree);exact h _ h' ⟨_,_,_,hA,ex,⟨F',N',Z.gk.alloc fr hfree ⟨s.heap.objs.size,_,0,cB,.head _,(cH.rep hr i.toNat).ext ex,by rw[z8,Nat.mul_comm];exact Nat.le_trans (Nat.add_le_add b1 Z.gk.lf) (by decide)⟩⟩,.ref cB⟩
theorem JO{fe:Loc->G->ME->R V}{l:Loc}{k pol:Nat}{a b:ME}{p q:Expr}{pos:Pos}(H:SE X n fe)(O:bB X f n)
  (h3:iN X.K X.C f.scope k a p=true) (h4:iN X.K X.C f.scope k b q=true) (Z:aO X f m γ g s.heap) (hl:X.Ls f γ m l):
  dh X f m (λγ' b a=>X.RV γ' b a) ((fe l g a).bind λx g=>(fe l g b).bind λy g=>match M0 pol x y with
  |some q=>g.alloc q.1 (.list q.2)
  |none=>.st) (eval (.BinOp p .Mult q pos) f.env) γ s:=by
 intro Φ Ψ Q E hA hE hQ;refine wpAny_BinOp ?_;refine H f m l g γ s k a p O h3 Z hl _ Ψ _ E (R.All.bind.mp hA) hE λx g1 γ1 u h1 tk1 hA1 e1 Z1 r1=>?_;refine H f m l g1 γ1 _ k b q O h4 Z1 (hl.ext e1) _ Ψ _ E (R.All.bind.mp hA1) (hE.at h1 tk1) λy g2 γ2 ui h2' tk2 hA2 e2 Z2 r2=>?_;have r1:=r1.ext e2;have e:=e1.trans e2;clear hA hA1 Z Z1 hl e1 e2;cases hm:M0 pol x y with
 |none=>rw[hm]at hA2;exact hA2.elim
 |some q=>
  rw[hm]at hA2;cases x with
  |lst vs=>obtain⟨i,rfl,hm⟩:=eU hm;obtain⟨t,rfl⟩:=r2.int_inv;have hm:=cJ hm;obtain rfl:=Option.some.inj hm.2;exact Nk (s:={s with heap:=h2',toks:=tk2}) Z2 O r1 (of_decide_eq_true (aj (ak hm.1))) (Nat.le_of_ble_eq_true (ak (ak hm.1))) hA2 λu h' ⟨v,g3,γ3,p,e3,Z3,r3⟩=>hQ v g3 γ3 u h' tk2 p (e.trans e3) Z3 r3
  |_=>exact aL hm
noncomputable def JP(C:Cfg):ME->Option V
 | .glob x=>aT C.gt x
 | .str s=>some (.str s)
 | .int i=>some (.int i)
 |_=>none
theorem x7{C:Cfg}{f':Fs}{l:Loc}{e:ME}(h:TU e=true)(g:G):(step C f').e l g e=opt (JP C e) g:=by cases e<;>first|exact ff h|rfl
theorem x8(KO:fY X)(Z:aO X f m γ g s.heap)(O:bB X f n){k:Nat}{e:ME}{p:Expr}{v:V}(h:TU e=true)(h4:iN X.K X.C f.scope k e p=true)(hv:JP X.C e=some v)
  {Q:Value->Shared->Prop} {E:Value->Shared->Prop} (q:∀u tk,X.RV γ u v->Q u {s with toks:=tk}):wpAny X.M f.A (eval p f.env) Q E s:=by
 cases k with
 |zero=>exact ff h4
 |succ k=>
  replace h4:E9 X.K X.C f.scope (iN X.K X.C f.scope k) e p=true:=h4;cases e with
  |glob x=>refine bI (x:=p) h4 λy pos h5=>?_;obtain rfl:=eq_of_beq (aj h5);obtain⟨u,hu,r⟩:=KO.gt x v hv;exact nameX_K Z.F O.X₀ (topRead_of O.T) hu (q u s.toks (r γ)) O.kind (fD (ak h5)).1 (fD (ak h5)).2
  |str x=>refine cO (x:=p) h4 λc kk pos h5=>?_;refine kB h5 λt h5=>?_;obtain rfl:=eq_of_beq (aj h5);obtain rfl:=Option.some.inj hv;exact wpAny_Constant_str (q _ _ (.str x _ (ak h5)))
  |int i=>refine cO (x:=p) h4 λc kk pos h5=>?_;refine Bo h5 ?_;obtain rfl:=Option.some.inj hv;exact wpAny_Constant_int (q _ _ (.int i _))
  |_=>exact ff h
inductive Nl(C:Cfg):List (S×ME)->List (S×V)->Prop
 |nil:Nl C [] []
 |cons {k:S} {e:ME} {v:V} {es:List (S×ME)} {vs:List (S×V)}:JP C e=some v->Nl C es vs->Nl C ((k,e)::es) ((k,v)::vs)
theorem Nl.keys{C:Cfg}{es:List (S×ME)}{vs:List (S×V)}(h:Nl C es vs):vs.map (·.1)=es.map (·.1):=by
 induction h with
 |nil=>rfl
 |cons _ _ ih=>exact congrArg (_::·) ih
theorem z9{C:Cfg}{f':Fs}{l:Loc}{Ψ:Prop}{es:List (S×ME)}:∀{Φ:List (S×V)->G->Prop}{g:G},es.all (λp=>TU p.2)=true->(evd (step C f') l g es).All Φ Ψ->∃vs,Φ vs g/\Nl C es vs:=by
 induction es with
 |nil=>exactλ{Φ g} _ h=>⟨[],h,.nil⟩
 |cons p es ih=>intro Φ g hs h;have h:=R.All.bind.mp h;rw[x7 (aj hs)]at h;obtain⟨v,hv,h⟩:=R.All.opt h;obtain⟨vs,h1,h2⟩:=ih (ak hs) (R.All.bind.mp h);exact⟨(p.1,v)::vs,h1,.cons hv h2⟩
inductive JQ(X:Cx)(f:Fm)(k:Nat):List (S×V)->List Expr->List (Option Expr)->Prop
 |nil:JQ X f k [] [] []
 |cons {x:S} {v:V} {e:ME} {p:Expr} {a:Nat} {b:Pos} {vs:List (S×V)} {ps:List Expr} {ks:List (Option Expr)} (hx:sok x=true) (hs:TU e=true) (hc:iN X.K X.C f.scope k e p=true) (hv:JP X.C e=some v) (r:JQ X f k vs ps ks):
   JQ X f k ((x,v)::vs) (p::ps) (some (.Constant (.str (toS x)) a b)::ks)
theorem Nn{k:Nat}{es:List (S×ME)}{vs:List (S×V)}(h:Nl X.C es vs):∀{ps:List Expr}{ks:List (Option Expr)},BY (iN X.K X.C f.scope k) (es.map (·.2)) ps=true->BY UU (es.map (·.1)) ks=true->es.all (λp=>TU p.2)=true->JQ X f k vs ps ks:=by
 induction h with
 |nil=>exactλ{ps ks} c1 c2 _=>match ps,ks,c1,c2 with
  |[],[],_,_=>.nil
  |_::_,_,c1,_=>ff c1
  |[],_::_,_,c2=>ff c2
 |cons hv _ ih=>exactλ{ps ks} c1 c2 c3=>match ps,ks,c1,c2 with
  |[],_,c1,_=>ff c1
  |_::_,[],_,c2=>ff c2
  |p::ps,kx::ks,c1,c2=>E7 (G:=λkx=>JQ X f k _ (p::ps) (kx::ks)) (aj c2) λa b hx=>.cons hx (aj c3) (aj c1) hv (ih (ak c1) (ak c2) (ak c3))
theorem JQ.lens{k:Nat}{vs:List (S×V)}{ps:List Expr}{ks:List (Option Expr)}(h:JQ X f k vs ps ks):ks.length=vs.length/\ps.length=vs.length/\ks.all (·.isSome)=true:=by
 induction h with
 |nil=>exact⟨rfl,rfl,rfl⟩
 |cons _ _ _ _ _ ih=>exact⟨congrArg (·+1) ih.1,congrArg (·+1) ih.2.1,ih.2.2⟩
theorem FH(KO:fY X)(O:bB X f n){k:Nat}{pos:Pos}{E:Value->Shared->Prop}{vs:List (S×V)}{ps:List Expr}{ks:List (Option Expr)}{h:Heap}(Zh:aO X f m γ g h)(d:JQ X f k vs ps ks):∀{tk:Nat}{Q:List (Value×Value)->Shared->Prop},
  (∀prs tk',allStrKeys prs=true->X.gR γ (strPairs prs) vs->Q prs {s with heap:=h,toks:=tk'})->wpAny X.M f.A (evalPairs (pairTrees ks ps f.env pos)) Q E {s with heap:=h,toks:=tk}:=by
 induction d with
 |nil=>exactλ{tk Q} q=>pairTrees_nil_walk (q [] tk rfl .nil)
 |cons hx hs hc hv _ ih=>
  intro tk Q q;refine pairTrees_cons_walk (wpAny_Constant_str ?_);refine x8 (s:={s with heap:=h,toks:=tk+1}) KO Zh O hs hc hv λu tk' ru=>?_
  exact ih λprs tk'' hp1 hp3=>q _ tk'' hp1 (.cons hx ru hp3)
theorem CZ{l:List S}(h:UE l=true):l.Nodup:=by
 induction l with
 |nil=>exact .nil
 |cons k r ih=>refine List.nodup_cons.mpr ⟨λhm=>?_,ih (ak h)⟩;exact List.any_eq_false.mp ((Bool.not_eq_true' _).mp (aj h)) k hm (iC k)
theorem FI(l:List S)(k:S):S3 (l.map λx=>(x,(none:Option V))) k=none:=by
 induction l with
 |nil=>rfl
 |cons a l ih=>
  by_cases e:a=k
  ·exact jv (p:=(a,none)) e
  ·rw[List.map_cons,gI (p:=(a,none)) e,ih]
theorem Vh(l:List S):cnt (l.map λx=>(x,(none:Option V)))=0:=by
 induction l with
 |nil=>rfl
 |cons a l ih=>exact ih
theorem ud(KO:fY X)(i:Nat):mQ ((X.C.tmpl i).map λx=>(x,(none:Option V))) []:=
 ⟨λk=>FI _ k,Vh _,by rw[List.length_map];exact KO.tm i⟩
noncomputable def Pg(C:Cfg)(pol:Nat)(vs:List (S×V))(g:G):R V:=match pol with
  |0=>.ok (.dct vs) g
  |1=>.st
  |k+2=>match vs with
   |[]=>g.alloc k (slots C k)
   |_=>.st
theorem JR(KO:fY X){h₁ h':Heap}{d:Addr}{o:Obj}{Φ:V->G->Prop}{Ψ:Prop}(Z:aO X f m γ g h₁)(fr:∀p∈γ.news,p.1 < d)(F':Fr f.h₀ f.L h' m)(N':News f.h₀ f.L h' ((d,o)::γ.news))(hd:o.IsDictOf (strKind X.prog X.w) []):∀{pol:Nat},(Pg X.C pol [] g).All Φ Ψ->Vg X f m Φ γ h' (.ref d)
 |0,hA=>⟨_,_,_,hA,Ext.push Z.gk,⟨F',N',Z.gk.push fr⟩,.dct (.head _) (λhm=>fP fr (Z.gk.nU d hm)) hd .nil (Nat.zero_le _)⟩
 |1,hA=>hA.elim
 |j+2,hA=>
  have⟨hfree,hA⟩:=jA hA;have ex:=Ext.alloc (o:=o) Z.gk fr (Z.gk.cell _ _ hfree)
  ⟨_,_,_,hA,ex,⟨F',N',Z.gk.alloc fr hfree ⟨d,o,[],[],cB,.head _,hd,.nil,rfl,ud KO j⟩⟩,.ref cB⟩
theorem FJ(KO:fY X){k:Nat}{pos:Pos}{p:S×V}{vs:List (S×V)}{ps:List Expr}{ks:List (Option Expr)}{Q:Value->Shared->Prop}{E:Value->Shared->Prop}(Z:aO X f m γ g s.heap)(O:bB X f n)(d:JQ X f k (p::vs) ps ks)(hz:(p::vs).length<=15)(hn:((p::vs).map (·.1)).Nodup)
  (h:∀u h' tk γ',Ext γ γ'->aO X f m γ' g h'->X.RV γ' u (.dct (p::vs))->Q u {s with heap:=h',toks:=tk}):wpAny X.M f.A (eval (.Dict ks ps pos) f.env) Q E s:=by
 obtain⟨l1,l2,l3⟩:=d.lens;refine Dict_made (knd:=strKind X.prog X.w) Z.F l3 (l1.trans l2.symm) (λe=>by rw[e]at l1;exact nomatch l1) (l1▸hz) λF0=>?_
 have N0:News f.h₀ f.L (s.heap.push {cls:=.type "dict",data:=.dict #[]}) γ.news:=λq hq=>⟨Heap.get?_push_of_some _ (Z.N q hq).1,(Z.N q hq).2⟩;refine FH KO O ⟨F0,N0,Z.gk⟩ d λprs tk' hp1 hp3=>?_;have hnd:((strPairs prs).map (·.1)).Nodup:=by
  rw[hp3.keys,show((p::vs).map λp=>toS p.1)=((p::vs).map (·.1)).map toS by rw[List.map_map];rfl]
  exact List.pairwise_map.mpr (hn.imp λh e=>h (mK e))
 refine PyProof.Rows.made_str Z.F Z.N hp1 hnd λh' o F' N' hd=>?_;have fr:∀p∈γ.news,p.1 < s.heap.objs.size:=λp hp=>Heap.lt_size (Z.N p hp).1;exact h _ h' _ (γ.push s.heap.objs.size o) (Ext.push Z.gk) ⟨F',N',Z.gk.push fr⟩ (.dct (.head _) (λhm=>fP fr (Z.gk.nU _ hm)) hd (hp3.ext (Ext.push Z.gk)) (Nat.le_trans hz (by decide)))
theorem x9(KO:fY X){f':Fs}{l:Loc}{k pol:Nat}{es:List (S×ME)}{ps:List Expr}{ks:List (Option Expr)}{pos:Pos}(O:bB X f n)
  (c1:BY (iN X.K X.C f.scope k) (es.map (·.2)) ps=true) (c2:BY UU (es.map (·.1)) ks=true) (c3:es.length<=15) (c4:es.all (λp=>TU p.2)=true) (c5:UE (es.map (·.1))=true) (Z:aO X f m γ g s.heap) (hl:X.Ls f γ m l):
  dh X f m (λγ' b a=>X.RV γ' b a) ((evd (step X.C f') l g es).bind λvs g=>Pg X.C pol vs g) (eval (.Dict ks ps pos) f.env) γ s:=by
 intro Φ Ψ Q E hA hE hQ;obtain⟨vs,hA1,hv⟩:=z9 c4 (R.All.bind.mp hA);have d:=Nn hv c1 c2 c4;have hk:=hv.keys;have hz:vs.length<=15:=by have:=congrArg List.length hk;rw[List.length_map,List.length_map]at this;exact this▸c3
 have hn:(vs.map (·.1)).Nodup:=hk▸CZ c5
 clear hA hv c1 c2 c3 c4 c5 hk;cases vs with
 |nil=>cases d;refine newDict_K Z.F Z.N O.T.nolimit λd h' o F' N' fr lo hd _ _ _=>?_;obtain⟨v,g2,γ2,p,e,Z2,r⟩:=JR KO Z fr F' N' hd hA1;exact hQ v g2 γ2 _ h' s.toks p e Z2 r
 |cons p vs=>match pol,hA1 with
  |0,hA1=>exact FJ KO Z O d hz hn λu h' tk γ' e Z' r=>hQ _ g γ' u h' tk hA1 e Z' r
  |1,hA1=>exact hA1.elim
  |_+2,hA1=>exact hA1.elim
end
noncomputable def SC(X:Cx)(n:Nat)(fc:G->V->List V->R V):Prop:=
 ∀(f:Fm)(m:Str->Option Value)(g:G)(γ:Ga)(s:Shared)(v:V)(vs:List V)(u:Value)(us:List Value),
  bB X f n->aO X f m γ g s.heap->X.RV γ u v->X.cH γ us vs->dh X f m (λγ' b a=>X.RV γ' b a) (fc g v vs) (call u us) γ s
section
variable{X:Cx}{f:Fm}{m:Str->Option Value}{γ:Ga}{g:G}{s:Shared}{n:Nat}
theorem kC{f':Fs}{l:Loc}{k:Nat}{a:Addr}{first:List Value}{es:List ME}{ps:List Expr}{pos:Pos}(H:SE X n f'.e)(O:bB X f n)(hk:keepIn X.K (.ref a)=true)
  (c:BY (iN X.K X.C f.scope k) es ps=true) (Z:aO X f m γ g s.heap) (hl:X.Ls f γ m l)
  {Φ:List V->G->Prop} {Ψ:Prop} {Q:Value->Shared->Prop} {E:Value->Shared->Prop} (hA:(evs f' l g es).All Φ Ψ) (hE:vH X f m E Ψ s)
  (h:∀vs g1 γ1 us h1 tk,Φ vs g1->Ext γ γ1->aO X f m γ1 g1 h1->X.cH γ1 us vs->wpAny X.M f.A (call (.ref a) (first++us)) Q E {s with heap:=h1,toks:=tk}):
  wpAny X.M f.A (callWith pos (.ref a) first (backTo pos (starEach ps f.env)) []) Q E s:=by
 have fin:=Vf H O (pos:=pos) c Z hl Φ Ψ (λvs s₁=>X.K.In s₁.heap/\wpAny X.M f.A (call (.ref a) (first++vs)) Q E s₁) E hA hE
  λvs g1 γ1 us h1 tk p e1 Z1 r=>⟨O.X₀.keeps Z1.F.keep,h vs g1 γ1 us h1 tk p e1 Z1 r.1⟩
 cases es with
 |nil=>exact(match ps,c with
  |[],_=>callWith_K0 (O.X₀.keeps Z.F.keep) hk (h [] g γ [] s.heap s.toks hA (Ext.refl γ) Z .nil)
  |_::_,c=>ff c)
 |cons e es=>exact(match ps,c,fin with
  |[],c,_=>ff c
  |q::ps,c,fin=>callWith_K O.X₀ hk fin (aE (bC (aj c))) (qH (ak c)))
noncomputable def VM(C:Cfg)(v:V)(k:Nat->R V):R V:=match v with
  | .fn a=>match SP C a with
   |true=>k a
   |false=>.st
  |_=>.st
theorem C0{C:Cfg}{v:V}{k:Nat->R V}{Φ:V->G->Prop}{Ψ:Prop}(h:(VM C v k).All Φ Ψ):∃a,v=.fn a/\SP C a=true/\(k a).All Φ Ψ:=by
 cases v with
 |fn a=>
  have h:(match SP C a with|true=>k a|false=>R.st).All Φ Ψ:=h
  cases hc:SP C a with
  |true=>rw[hc]at h;exact⟨a,rfl,hc,h⟩
  |false=>rw[hc]at h;exact h.elim
 |_=>exact h.elim
theorem FL(KO:fY X){f':Fs}{l:Loc}{k:Nat}{e:ME}{y:Str}{np pos:Pos}{es:List ME}{ps:List Expr}(H:SE X n f'.e)(HC:SC X n f'.c)(O:bB X f n)
  (h4:iN X.K X.C f.scope k e (.Name y np)=true) (c:BY (iN X.K X.C f.scope k) es ps=true) (Z:aO X f m γ g s.heap) (hl:X.Ls f γ m l):
  dh X f m (λγ' b a=>X.RV γ' b a) ((f'.e l g e).bind λv g=>VM X.C v λa=>(evs f' l g es).bind λvs g=>f'.c g (.fn a) vs) (eval (.Call (.Name y np) ps [] pos) f.env) γ s:=by
 intro Φ Ψ Q E hA hE hQ;refine Call_Name rfl ?_;refine H f m l g γ s k e _ O h4 Z hl _ Ψ _ E (R.All.bind.mp hA) hE λv g1 γ1 u h1 tk hA1 e1 Z1 r1=>?_;clear hA;obtain⟨a,rfl,ha,hA1⟩:=C0 hA1;obtain rfl:=r1.zZ;refine kC (first:=[]) (s:={s with heap:=h1,toks:=tk}) H O (KO.keep a ha) c Z1 (hl.ext e1) (R.All.bind.mp hA1) (hE.at h1 tk) λvs g2 γ2 us h2 tk2 hA2 e2 Z2 r2=>?_
 exact HC f m g2 γ2 {s with heap:=h2,toks:=tk2} (.fn a) vs (.ref a) us O Z2 (.fn a) r2 Φ Ψ Q E hA2 (hE.at h2 tk2) λv' g' γ' u' h' tk' p e' Z' r'=>hQ v' g' γ' u' h' tk' p ((e1.trans e2).trans e') Z' r'
theorem ya{o:Expr}{name:Str}{apos pos:Pos}{args:List Expr}{A:Around}{M:Model}{env:Env}{s:Shared}{Q:Value->Shared->Prop}{E:Value->Shared->Prop}(hs:jz o=true)(hp:(apos.endLine==pos.line)=true)
  (hf:(backTo pos (starEach args env)).any (·.1)=false) (hn:args.length < 30)
  (h:wpAny M A (eval o env) (λov s₁=>wpAny M A (getMethod ov name (do return (<- importBound o env).getD true)) (λfx s₂=>wpAny M A (callWith pos fx.1 fx.2 (backTo pos (starEach args env)) []) Q E s₂) E s₁) E s):
  wpAny M A (eval (.Call (.Attribute o name apos) args [] pos) env) Q E s:=by
 show wpAny M A (do
   let ov <- attributeBase o name env (eval o env)
   standAt apos.atName
   methodCall o name apos pos env ov args.length (backTo pos (starEach args env)) []) Q E s
 rw[jB hs];refine wpAny_bind (wpAny_mono h (λov s₁ h₁=>wpAny_bind (wpAny_standAt ?_)) λ_ _ x=>x);have hform:methodCallForm args.length (backTo pos (starEach args env)) []=true:=by
  unfold methodCallForm;have:(backTo pos (starEach args env)).all (λx=>!x.1)=true:=by rw[List.all_eq_true];intro x hx;rw[List.any_eq_false]at hf;simpa using hf x hx
  simp [this,hn]
 unfold methodCall;rw[hform];unfold calleeOf methodCallPos;refine wpAny_bind (wpAny_holding ?_);rw[if_pos rfl];refine wpAny_mono h₁ (λfx s₂ h₂=>?_) λ_ _ x=>x;rw[if_pos (by rw[hp];rfl)]
 exact wpAny_bind (wpAny_pure h₂)
theorem kD{D:Addr}{o:Obj}{name:Str}{id:String}{pl:Sem Bool}{Q:Value×List Value->Shared->Prop}{E:Value->Shared->Prop}(ho:s.heap.get? D=some o)(hc:o.cls=.type "list")(hd:o.dict=none)(slot:Slot "list" name id)(hty:typeOf (.builtin id)=pure (.type "method_descriptor"))
  (h:Q (.builtin id,[.ref D]) s):wpAny X.M f.A (getMethod (.ref D) name pl) Q E s:=
 getMethod_builtin ⟨_,ho,hc⟩ PySem.F.plainAttrs_list slot hty (λa e=>by cases e;exact⟨_,ho,hd⟩) h
theorem yc{α:Type}{l:List (S×α)}{k:S}{v:α}(h:SX l k=some v):(k,v)∈l:=by
 induction l with
 |nil=>exact nomatch h
 |cons p l ih=>
  by_cases e:p.1=k
  ·rw[fW e]at h;rw[<- e,<- Option.some.inj h];exact .head _
  ·rw[dY e]at h;exact .tail _ (ih h)
noncomputable def Mi:List (S×Int):=[([65],0),([66],1),([67],2),([73],8),([83],18),([74],9)]
noncomputable def VN(p:S×Int):Bool:=Txt.find (toS p6) (toS p.1)==p.2
theorem FN:Mi.all VN=true:=by kernel_rfl
theorem JS{x c:S}{i:Int}(h:Mine.find x c=some i):Txt.find (toS x) (toS c)=i:=by
 have h:(match As x p6 with|true=>SX Mi c|false=>none)=some i:=h
 cases hx:As x p6 with
 |true=>rw[hx]at h;obtain rfl:=vC hx;exact eq_of_beq (show VN (c,i)=true from List.all_eq_true.mp FN (c,i) (yc h))
 |false=>rw[hx]at h;exact aL h
theorem yd{Φ:Unit->G->Prop}{Ψ:Prop}(h:g.tick.All Φ Ψ):∃k,g.left=k+1/\Φ () ⟨g.hp,k,g.lk⟩:=by
 have h:(match g.left with|0=>R.st|n+1=>R.ok () (⟨g.hp,n,g.lk⟩:G)).All Φ Ψ:=h
 cases hk:g.left with
 |zero=>rw[hk]at h;exact h.elim
 |succ k=>rw[hk]at h;exact⟨k,rfl,h⟩
theorem UG{i:Nat}{c:By}{Φ:Unit->G->Prop}{Ψ:Prop}(h:(g.set i c).All Φ Ψ):lkd g.lk i=false/\Φ () ⟨jf g.hp i c,g.left,g.lk⟩:=by
 have h:(match(match lkd g.lk i with|true=>none|false=>some (⟨jf g.hp i c,g.left,g.lk⟩:G))with|some g=>R.ok () g|none=>R.st).All Φ Ψ:=h
 cases hk:lkd g.lk i with
 |true=>rw[hk]at h;exact h.elim
 |false=>rw[hk]at h;exact⟨rfl,h⟩
theorem yf(Z:aO X f m γ g s.heap){i:Nat}{a:Addr}{l:List V}{u:Value}{v:V}(hr:γ.rho.lookup i=some a)(hg:g.get i=.list l)(rv:X.RV γ u v){Φ:V->G->Prop}{Ψ:Prop}{Q:Value->Shared->Prop}{E:Value->Shared->Prop}
  (hA:(g.tick.bind λ_ g=>(g.set i (.list (l++[v]))).bind λ_ g=>R.ok V.none g).All Φ Ψ)
  (hQ:∀γ' g' h',Φ .none g'->Ext γ γ'->aO X f m γ' g' h'->Q .none {s with heap:=h'}):wpAny X.M f.A (call (.builtin "list.append") [.ref a,u]) Q E s:=by
 obtain⟨d,its,nn,r,hm,hrs,hz⟩:=dG Z hg;rw[hr]at r;cases r;obtain⟨k,hk,hA1⟩:=yd (R.All.bind.mp hA);obtain⟨hlk,hA2⟩:=UG (R.All.bind.mp hA1);have hlen:=hrs.length;refine append_K Z.F Z.N (mT Z.gk.nd hm) (λh' F' N'=>?_) (cZ (by rw[List.size_toArray,hlen];exact Bf hz))
 have ed:Ext γ (γ.upd a (PySem.W.listOf (its.toArray.push u) (nn+1))):=Ext.upd (Z.gk.lu hr);refine hQ _ _ h' hA2 ed ⟨F',N',Z.gk.upd hr hlk (by show k<=g.left;exact RE hk) ?_⟩
 refine⟨a,its++[u],nn+1,hr,?_,(hrs.ext ed).append (.cons (rv.ext ed) .nil),by rw[List.length_append,List.length_singleton];show _+k<=_;exact RG hk hz⟩
 have:(List.toArray (its++[u]))=its.toArray.push u:=by simp
 rw[this];exact mS hm
theorem yg(Z:aO X f m γ g s.heap){a:Addr}{u:Value}(hj:a∈γ.jun){Φ:V->G->Prop}{Ψ:Prop}{Q:Value->Shared->Prop}{E:Value->Shared->Prop}
  (hA:(g.tick.bind λ_ g=>R.ok V.none g).All Φ Ψ)
  (hQ:∀γ' g' h',Φ .none g'->Ext γ γ'->aO X f m γ' g' h'->Q .none {s with heap:=h'}):wpAny X.M f.A (call (.builtin "list.append") [.ref a,u]) Q E s:=by
 obtain⟨its,nn,hm,hz⟩:=Z.gk.ju _ hj;obtain⟨k,hk,hA1⟩:=yd (R.All.bind.mp hA);refine append_K Z.F Z.N (mT Z.gk.nd hm) (λh' F' N'=>?_) (cZ (Bf hz));exact hQ _ _ h' hA1 (Ext.upd (vE hj)) ⟨F',N',Z.gk.Je hj (by show k<=g.left;exact RE hk) (by rw[Array.size_push];show _+k<=_;exact RG hk hz)⟩
inductive Ph(x:V)(l:List V)(j:Int):Prop
 |mk (k:Nat) (y:V) (e:j=k) (hk:k < l.length) (hy:l[k]?=some y) (ht:veq y x=some true) (hf:∀i y,i < k->l[i]?=some y->veq y x=some false)
theorem yh{x:V}{l:List V}:∀{j:Int},Td l x=some j->Ph x l j:=by
 induction l with
 |nil=>exactλh=>nomatch h
 |cons y l ih=>
  intro j h;have h:(match veq y x with|some true=>some 0|some false=>(Td l x).map (·+1)|none=>none)=some j:=h
  cases e:veq y x with
  |none=>rw[e]at h;exact aL h
  |some b=>
   rw[e]at h;cases b with
   |true=>exact⟨0,y,(Option.some.inj h).symm,Nat.zero_lt_succ _,rfl,e,λi _ hi=>absurd hi (Nat.not_lt_zero _)⟩
   |false=>
    obtain⟨j',hj',rfl⟩:=Option.map_eq_some_iff.mp h;obtain⟨k,z,rfl,h1,h2,h3,h4⟩:=ih hj';exact⟨k+1,z,rfl,Nat.succ_lt_succ h1,h2,h3,λi w hi hw=>match i,hi,hw with
     |0,_,hw=>Option.some.inj (hw:some y=some w)▸e
     |i+1,hi,hw=>h4 i w (Nat.lt_of_succ_lt_succ hi) hw⟩
theorem C1{l:List V}:∀{i:Nat}{y:V},l[i]?=some y->(Tf l)[i]?=some (fU y):=by
 induction l with
 |nil=>exactλh=>nomatch h
 |cons a l ih=>exactλ{i y} h=>match i,h with
  |0,h=>congrArg (λv=>some (fU v)) (Option.some.inj (h:some a=some y))
  |i+1,h=>ih (i:=i) h
theorem FP(Z:aO X f m γ g s.heap)(O:bB X f n){d:Addr}{vs:List Value}{l:List V}{u:Value}{x:V}{j:Int}(hd:s.heap.IsList d (List.toArray vs))(rs:X.cH γ vs l)(rx:X.RV γ u x)(hz:l.length<=1000000)(h1:vok 8 x=true)(h2:l.all (vok 8)=true)(h:Td l x=some j)
  {Q:Value->Shared->Prop} {E:Value->Shared->Prop} (hQ:Q (.int j s.toks) {s with toks:=s.toks+1}):wpAny X.M f.A (call (.builtin "list.index") [.ref d,u]) Q E s:=by
 obtain⟨⟨as,p1⟩,p2,p3⟩:=rd Z O 8 h1 rx;obtain⟨⟨bs,q1⟩,q2,q3⟩:=rds Z O 8 h2 rs;obtain⟨k,y,rfl,hk,hy,hyt,hno⟩:=yh h;have hu:f.A.units+1+min (PyData.depthAll (Tf l)) (fU x).depth < cLine:=by rw[Nat.add_assoc];exact iM O (vN q3)
 have hlen:=rs.length;obtain⟨⟨cls,dd,data,sl⟩,ho,hc,nn,hdt⟩:=hd;simp only at hc hdt;subst hc hdt;have hmap:=SeqAt.readsAll_map (Tf l) vs _ q2 q1;have rdo:∀i (hi:i < vs.length) z,l[i]?=some z->SeqAt.readOf s.heap vs[i]=fU z:=λi hi z hz=>by have e1:=C1 hz;rw[<- hmap,List.getElem?_map,List.getElem?_eq_getElem hi]at e1;exact Option.some.inj e1
 have vk:∀z,z∈l->vok 8 z=true:=λz hz=>List.all_eq_true.mp h2 z hz;refine call_meets PySem.F.slot_list_index ⟨_,ho,rfl⟩ PySem.F.entry_list_index (PySem.F.args_list_index_2 _ _)
  (SeqAt.list_indexAt d vs.toArray nn dd sl u (λy=>PyData.eqv (SeqAt.readOf s.heap y) (fU x)) k (by simpa [hlen]using hk) (Int.lt_of_lt_of_le (Int.ofNat_lt.mpr (Nat.lt_of_lt_of_le hk hz)) (by decide)) ?_ ?_) ⟨ho,SeqAt.items_eqAt (by simpa using q1) p1 q2 p2 hu,hQ⟩
 ·have hi:k < vs.length:=Nat.lt_of_lt_of_eq hk hlen.symm;have:vs.toArray[k]'(by simpa using hi)=vs[k]:=by simp
  show PyData.eqv (SeqAt.readOf s.heap (vs.toArray[k]'(by simpa using hi))) (fU x)=true
  rw[this,rdo k hi y hy];exact i8 8 y x true (vk y (List.mem_of_getElem? hy)) h1 hyt
 ·intro i his hlt;have hi:i < vs.length:=by simpa using his
  have hil:i < l.length:=Nat.lt_of_lt_of_eq hi hlen;have:vs.toArray[i]'his=vs[i]:=by simp
  show PyData.eqv (SeqAt.readOf s.heap (vs.toArray[i]'his)) (fU x)=false;rw[this,rdo i hi l[i] (List.getElem?_eq_getElem hil)];exact i8 8 _ x false (vk _ (List.getElem_mem hil)) h1 (hno i _ hlt (List.getElem?_eq_getElem hil))
end
theorem BB:toS lq="append":=by decide+kernel
theorem FQ:toS Mf="find":=by decide+kernel
theorem BC:toS EO="get":=by decide+kernel
theorem C2:toS vf="index":=by decide+kernel
section
variable{X:Cx}{f:Fm}{m:Str->Option Value}{γ:Ga}{g:G}{s:Shared}{n:Nat}
theorem jC{f':Fs}{l:Loc}{k:Nat}{id:String}{first:List Value}{es:List ME}{ps:List Expr}{pos:Pos}(H:SE X n f'.e)(O:bB X f n)
  (c:BY (iN X.K X.C f.scope k) es ps=true) (Z:aO X f m γ g s.heap) (hl:X.Ls f γ m l)
  {Φ:List V->G->Prop} {Ψ:Prop} {Q:Value->Shared->Prop} {E:Value->Shared->Prop} (hA:(evs f' l g es).All Φ Ψ) (hE:vH X f m E Ψ s)
  (h:∀vs g1 γ1 us h1 tk,Φ vs g1->Ext γ γ1->aO X f m γ1 g1 h1->X.cH γ1 us vs->wpAny X.M f.A (call (.builtin id) (first++us)) Q E {s with heap:=h1,toks:=tk}):
  wpAny X.M f.A (callWith pos (.builtin id) first (backTo pos (starEach ps f.env)) []) Q E s:=by
 have fin:=Vf H O (pos:=pos) c Z hl Φ Ψ (λvs s₁=>wpAny X.M f.A (call (.builtin id) (first++vs)) Q E s₁) E hA hE
  λvs g1 γ1 us h1 tk p e1 Z1 r=>h vs g1 γ1 us h1 tk p e1 Z1 r.1
 match es,ps,c with
 |[],[],_=>have:=h [] g γ [] s.heap s.toks hA (Ext.refl γ) Z .nil;rw[List.append_nil]at this;exact PyProof.Rows.callWith_method0 this
 |e::es,q::ps,c=>have c':(iN X.K X.C f.scope k e q&&BY (iN X.K X.C f.scope k) es ps)=true:=c;rw[Bool.and_eq_true]at c';exact PyProof.Rows.callWith_method1 fin (aE (bC c'.1)) (qH c'.2)
 |[],_::_,c=>cases c
 |_::_,[],c=>cases c
theorem Um(KO:fY X)(Z:aO X f m γ g s.heap)(O:bB X f n){a:Addr}{o:Obj}{kvs:List (Str×Value)}{l:List (S×V)}(hm:(a,o)∈γ.news)(hd:o.IsDictOf (strKind X.prog X.w) kvs)(hr:X.gR γ kvs l){k:S}{t:Tok}{Q:Value->Shared->Prop}{E:Value->Shared->Prop}:
  (∀{u:Value}{d:V},X.RV γ u d->(∀u',X.RV γ u' (match SX l k with|some v=>v|none=>d)->Q u' {s with toks:=s.toks+1})->wpAny X.M f.A (call (.builtin "dict.get") [.ref a,.str (toS k) t,u]) Q E s)/\
  ((∀u',X.RV γ u' (match SX l k with|some v=>v|none=>.none)->Q u' {s with toks:=s.toks+1})->wpAny X.M f.A (call (.builtin "dict.get") [.ref a,.str (toS k) t]) Q E s):=by
 have q:=hr.valueAt k;refine⟨λ{u d} rd hQ=>kdg_get2 Z.N hm hd (jg KO Z O hm) (tW k t) _ rfl ?_,λhQ=>kdg_get1 Z.N hm hd (jg KO Z O hm) (tW k t) _ rfl ?_⟩
 ·cases e:SX l k with
  |none=>rw[e]at q hQ;dsimp only at q hQ;rw[q];exact hQ u rd
  |some y=>rw[e]at q hQ;dsimp only at q hQ;obtain⟨u',hu,ru⟩:=q;rw[hu];exact hQ u' ru
 ·cases e:SX l k with
  |none=>rw[e]at q hQ;dsimp only at q hQ;rw[q];exact hQ .none .none
  |some y=>rw[e]at q hQ;dsimp only at q hQ;obtain⟨u',hu,ru⟩:=q;rw[hu];exact hQ u' ru
noncomputable def MG(X:Cx)(f:Fm)(own:Sem Bool)(pos:Pos)(ps:List Expr)(Q:Value->Shared->Prop)(E:Value->Shared->Prop)(b:Str)(u:Value)(s:Shared):Prop:=
 wpAny X.M f.A (getMethod u b own) (λfx s₂=>wpAny X.M f.A (callWith pos fx.1 fx.2 (backTo pos (starEach ps f.env)) []) Q E s₂) E s
section
variable{f':Fs}{l:Loc}{k:Nat}{es:List ME}{ps:List Expr}{pos:Pos}{own:Sem Bool}{u:Value}{Φ:V->G->Prop}{Ψ:Prop}{Q:Value->Shared->Prop}{E:Value->Shared->Prop}
noncomputable def Mj(X:Cx)(f:Fm)(m:Str->Option Value)(Φ:V->G->Prop)(Q:Value->Shared->Prop)(γ:Ga)(s:Shared):Prop:=
 ∀a g' γ' b h' tk,Φ a g'->Ext γ γ'->aO X f m γ' g' h'->X.RV γ' b a->Q b {s with heap:=h',toks:=tk}
noncomputable def yj(f':Fs)(l:Loc)(g:G)(es:List ME)(v:V)(kk:Lk)(Φ:V->G->Prop)(Ψ:Prop):Prop:=(evs f' l g es).All (λvs g=>(Ua f' g v kk vs).All Φ Ψ) Ψ
theorem Pj(H:SE X n f'.e)(O:bB X f n)(c:BY (iN X.K X.C f.scope k) es ps=true)(Z:aO X f m γ g s.heap)(hl:X.Ls f γ m l)(hE:vH X f m E Ψ s)(hQ:Mj X f m Φ Q γ s)
  (r:X.RV γ u .jl) (hA:yj f' l g es .jl .app Φ Ψ):MG X f own pos ps Q E "append" u s:=by
 obtain⟨a,rfl,hj⟩:=r.E1;obtain⟨its,nn,hm,hz⟩:=Z.gk.ju _ hj;refine kD (Z.N.get hm) rfl rfl PySem.F.slot_list_append PySem.F.type_list_append ?_;refine jC H O c Z hl hA hE λvs g2 γ2 us h2 tk2 hA3 e2 Z2 r2=>?_;cases vs with
 |nil=>exact hA3.elim
 |cons x vs=>cases vs with
  |cons _ _=>exact hA3.elim
  |nil=>obtain⟨_,_,rfl,rx,rn⟩:=r2.cons_inv;obtain rfl:=rn.nil_inv;exact yg (s:={s with heap:=h2,toks:=tk2}) Z2 (e2.jun _ hj) hA3 λγ' g' h' p' e' Z'=>hQ _ g' γ' _ h' tk2 p' (e2.trans e') Z' .none
theorem Np(H:SE X n f'.e)(O:bB X f n)(c:BY (iN X.K X.C f.scope k) es ps=true)(Z:aO X f m γ g s.heap)(hl:X.Ls f γ m l)(hE:vH X f m E Ψ s)(hQ:Mj X f m Φ Q γ s)
  {x:S} (r:X.RV γ u (.str x)) (hA:yj f' l g es (.str x) .find Φ Ψ):MG X f own pos ps Q E "find" u s:=by
 obtain⟨t,rfl,hx⟩:=r.str_inv;refine GM.find ?_;refine jC H O c Z hl hA hE λvs g2 γ2 us h2 tk2 hA3 e2 Z2 r2=>?_;cases vs with
 |nil=>exact hA3.elim
 |cons y vs=>cases vs with
  |cons _ _=>cases y<;>exact hA3.elim
  |nil=>
   cases y<;>first|exact hA3.elim|skip
   obtain⟨_,_,rfl,rx,rn⟩:=r2.cons_inv;obtain rfl:=rn.nil_inv;obtain⟨t',rfl,_⟩:=rx.str_inv;obtain⟨v',hv',hA4⟩:=R.All.opt hA3;obtain⟨i,hi,rfl⟩:=Option.map_eq_some_iff.mp hv';refine SC.find (s:={s with heap:=h2,toks:=tk2}) ?_
   rw[JS hi];exact hQ _ g2 γ2 _ h2 _ hA4 e2 Z2 (.int _ _)
theorem FT(KO:fY X)(H:SE X n f'.e)(O:bB X f n)(c:BY (iN X.K X.C f.scope k) es ps=true)(Z:aO X f m γ g s.heap)(hl:X.Ls f γ m l)(hE:vH X f m E Ψ s)
  {a:Addr} {o:Obj} {kvs:List (Str×Value)} (hm:(a,o)∈γ.news) (hd:o.IsDictOf (strKind X.prog X.w) kvs) {P:List V->G->Prop} (hA:(evs f' l g es).All P Ψ)
  (h2:∀x d g2 γ2 h2 tk2 u',P [.str x,d] g2->Ext γ γ2->aO X f m γ2 g2 h2->X.RV γ2 u' d->∀t,wpAny X.M f.A (call (.builtin "dict.get") [.ref a,.str (toS x) t,u']) Q E {s with heap:=h2,toks:=tk2})
  (h1:∀x g2 γ2 h2 tk2,P [.str x] g2->Ext γ γ2->aO X f m γ2 g2 h2->∀t,wpAny X.M f.A (call (.builtin "dict.get") [.ref a,.str (toS x) t]) Q E {s with heap:=h2,toks:=tk2})
  (hn:∀vs g,P vs g->(∃x d,vs=[.str x,d])\/∃x,vs=[.str x]):MG X f own pos ps Q E "get" (.ref a) s:=by
 refine kdl_method PySem.F.slot_dict_get PySem.F.type_dict_get Z.N hm hd ?_;refine jC H O c Z hl hA hE λvs g2 γ2 us hh2 tk2 hA3 e2 Z2 r2=>?_;rcases hn vs g2 hA3 with⟨x,d,rfl⟩|⟨x,rfl⟩
 ·obtain⟨_,_,rfl,rx,rn⟩:=r2.cons_inv;obtain⟨_,_,rfl,ry,rn⟩:=rn.cons_inv;obtain rfl:=rn.nil_inv;obtain⟨t',rfl,_⟩:=rx.str_inv;exact h2 x d g2 γ2 hh2 tk2 _ hA3 e2 Z2 ry t'
 ·obtain⟨_,_,rfl,rx,rn⟩:=r2.cons_inv;obtain rfl:=rn.nil_inv;obtain⟨t',rfl,_⟩:=rx.str_inv;exact h1 x g2 γ2 hh2 tk2 hA3 e2 Z2 t'
theorem Nq(KO:fY X)(H:SE X n f'.e)(O:bB X f n)(c:BY (iN X.K X.C f.scope k) es ps=true)(Z:aO X f m γ g s.heap)(hl:X.Ls f γ m l)(hE:vH X f m E Ψ s)(hQ:Mj X f m Φ Q γ s)
  {d:List (S×V)} (r:X.RV γ u (.dct d)) (hA:yj f' l g es (.dct d) .get Φ Ψ):MG X f own pos ps Q E "get" u s:=by
 obtain⟨_,_,_,rfl,hm,hnm,hd,hr,hz⟩:=r.lz;refine FT KO H O c Z hl hE hm hd hA (λx d g2 γ2 h2 tk2 u' hA3 e2 Z2 ry t=>?_) (λx g2 γ2 h2 tk2 hA3 _ _ _=>hA3.elim) (λvs g hA3=>?_)
 ·exact(Um (s:={s with heap:=h2,toks:=tk2}) KO Z2 O (e2.news _ _ hm hnm).1 hd (hr.ext e2)).1 ry λu' ru=>hQ _ g2 γ2 u' h2 _ hA3 e2 Z2 ru
 ·cases vs with
  |nil=>exact hA3.elim
  |cons x vs=>cases vs with
   |nil=>cases x<;>exact hA3.elim
   |cons y vs=>cases vs with
    |nil=>cases x<;>first|exact hA3.elim|exact .inl ⟨_,_,rfl⟩
    |cons _ _=>cases x<;>exact hA3.elim
theorem Nr(H:SE X n f'.e)(O:bB X f n)(c:BY (iN X.K X.C f.scope k) es ps=true)(Z:aO X f m γ g s.heap)(hl:X.Ls f γ m l)(hE:vH X f m E Ψ s)(hQ:Mj X f m Φ Q γ s)
  {i a:Nat} {l':List V} (hr:γ.rho.lookup i=some a) (hg:g.get i=.list l') (hA:yj f' l g es (.ref i) .app Φ Ψ):MG X f own pos ps Q E "append" (.ref a) s:=by
 obtain⟨d,its,nn,r,hm,hrs,hz⟩:=dG Z hg;obtain rfl:=Option.some.inj (hr.symm.trans r);refine kD (Z.N.get hm) rfl rfl PySem.F.slot_list_append PySem.F.type_list_append ?_;refine jC H O c Z hl hA hE λvs g2 γ2 us h2 tk2 hA3 e2 Z2 r2=>?_;cases vs with
 |nil=>exact hA3.elim
 |cons x vs=>cases vs with
  |cons _ _=>exact hA3.elim
  |nil=>
   obtain⟨_,_,rfl,rx,rn⟩:=r2.cons_inv;obtain rfl:=rn.nil_inv;have hA3:(match g2.get i with
    | .list l=>g2.tick.bind λ_ g=>(g.set i (.list (l++[x]))).bind λ_ g=>.ok .none g
    |_=>.st:R V).All Φ Ψ:=hA3
   cases hg2:g2.get i with
   |list l''=>rw[hg2]at hA3;exact yf (s:={s with heap:=h2,toks:=tk2}) Z2 (e2.rho _ _ hr) hg2 rx hA3 λγ' g' h' p' e' Z'=>hQ _ g' γ' _ h' tk2 p' (e2.trans e') Z' .none
   |free=>rw[hg2]at hA3;exact hA3.elim
   |pen=>rw[hg2]at hA3;exact hA3.elim
   |dict _ _=>rw[hg2]at hA3;exact hA3.elim
theorem Nt(H:SE X n f'.e)(O:bB X f n)(c:BY (iN X.K X.C f.scope k) es ps=true)(Z:aO X f m γ g s.heap)(hl:X.Ls f γ m l)(hE:vH X f m E Ψ s)(hQ:Mj X f m Φ Q γ s)
  {i a:Nat} {l':List V} (hr:γ.rho.lookup i=some a) (hg:g.get i=.list l') (hA:yj f' l g es (.ref i) .idx Φ Ψ):MG X f own pos ps Q E "index" (.ref a) s:=by
 obtain⟨d,its,nn,r,hm,hrs,hz⟩:=dG Z hg;obtain rfl:=Option.some.inj (hr.symm.trans r);refine kD (Z.N.get hm) rfl rfl PySem.F.slot_list_index PySem.F.type_list_index ?_;refine jC H O c Z hl hA hE λvs g2 γ2 us h2 tk2 hA3 e2 Z2 r2=>?_;cases vs with
 |nil=>exact hA3.elim
 |cons x vs=>cases vs with
  |cons _ _=>exact hA3.elim
  |nil=>
   obtain⟨_,_,rfl,rx,rn⟩:=r2.cons_inv;obtain rfl:=rn.nil_inv;have hA3:(match g2.get i with
    | .list l=>match vok 8 x,l.all (vok 8)with
     |true,true=>opt ((Td l x).map .int) g2
     |_,_=>.st
    |_=>.st:R V).All Φ Ψ:=hA3
   cases hg2:g2.get i with
   |free=>rw[hg2]at hA3;exact hA3.elim
   |pen=>rw[hg2]at hA3;exact hA3.elim
   |dict _ _=>rw[hg2]at hA3;exact hA3.elim
   |list l''=>
    rw[hg2]at hA3;cases v1:vok 8 x with
    |false=>dsimp only at hA3;rw[v1]at hA3;exact hA3.elim
    |true=>
     cases v2:l''.all (vok 8)with
     |false=>dsimp only at hA3;rw[v1,v2]at hA3;exact hA3.elim
     |true=>
      dsimp only at hA3;rw[v1,v2]at hA3;obtain⟨d',its',nn',r',hm',hrs',hz'⟩:=dG (s:={s with heap:=h2,toks:=tk2}) Z2 hg2
      obtain rfl:=Option.some.inj ((e2.rho _ _ hr).symm.trans r');obtain⟨v',hv',hA4⟩:=R.All.opt hA3;obtain⟨j,hj,rfl⟩:=Option.map_eq_some_iff.mp hv';exact FP (s:={s with heap:=h2,toks:=tk2}) Z2 O ⟨_,Z2.N.get hm',rfl,nn',rfl⟩ hrs' rx (Bf hz') v1 v2 hj (hQ _ g2 γ2 _ h2 _ hA4 e2 Z2 (.int _ _))
theorem Nu(KO:fY X)(H:SE X n f'.e)(O:bB X f n)(c:BY (iN X.K X.C f.scope k) es ps=true)(Z:aO X f m γ g s.heap)(hl:X.Ls f γ m l)(hE:vH X f m E Ψ s)(hQ:Mj X f m Φ Q γ s)
  {i a:Nat} {tab:List (S×Option V)} {ord:List S} (hr:γ.rho.lookup i=some a) (hg:g.get i=.dict tab ord) (hA:yj f' l g es (.ref i) .get Φ Ψ):MG X f own pos ps Q E "get" (.ref a) s:=by
 obtain⟨d,o,kvs,ll,r,hm,hd,hp,ho,ht⟩:=cU Z hg;obtain rfl:=Option.some.inj (hr.symm.trans r);refine FT KO H O c Z hl hE hm hd hA (λx d g2 γ2 h2 tk2 u' hA3 e2 Z2 ry t=>?_) (λx g2 γ2 h2 tk2 hA3 e2 Z2 t=>?_) (λvs g hA3=>?_)
 ·have hA3:(match g2.get i with
   | .dict tab _=>.ok (match S3 tab x with|some v=>v|none=>d) g2
   |_=>.st:R V).All Φ Ψ:=hA3
  cases hg2:g2.get i with
  |free=>rw[hg2]at hA3;exact hA3.elim
  |pen=>rw[hg2]at hA3;exact hA3.elim
  |list _=>rw[hg2]at hA3;exact hA3.elim
  |dict tab2 ord2=>
   rw[hg2]at hA3;dsimp only at hA3;obtain⟨d',o',kvs',ll',r',hm',hd',hp',ho',ht'⟩:=cU (s:={s with heap:=h2,toks:=tk2}) Z2 hg2
   obtain rfl:=Option.some.inj ((e2.rho _ _ hr).symm.trans r');rw[ht'.1]at hA3;exact(Um (s:={s with heap:=h2,toks:=tk2}) KO Z2 O hm' hd' hp').1 ry λu' ru=>hQ _ g2 γ2 u' h2 _ hA3 e2 Z2 ru
 ·have hA3:(match g2.get i with
   | .dict tab _=>.ok (match S3 tab x with|some v=>v|none=>.none) g2
   |_=>.st:R V).All Φ Ψ:=hA3
  cases hg2:g2.get i with
  |free=>rw[hg2]at hA3;exact hA3.elim
  |pen=>rw[hg2]at hA3;exact hA3.elim
  |list _=>rw[hg2]at hA3;exact hA3.elim
  |dict tab2 ord2=>
   rw[hg2]at hA3;dsimp only at hA3;obtain⟨d',o',kvs',ll',r',hm',hd',hp',ho',ht'⟩:=cU (s:={s with heap:=h2,toks:=tk2}) Z2 hg2
   obtain rfl:=Option.some.inj ((e2.rho _ _ hr).symm.trans r');rw[ht'.1]at hA3;exact(Um (s:={s with heap:=h2,toks:=tk2}) KO Z2 O hm' hd' hp').2 λu' ru=>hQ _ g2 γ2 u' h2 _ hA3 e2 Z2 ru
 ·cases vs with
  |nil=>exact hA3.elim
  |cons x vs=>cases vs with
   |nil=>cases x<;>first|exact hA3.elim|exact .inr ⟨_,rfl⟩
   |cons y vs=>cases vs with
    |nil=>cases x<;>first|exact hA3.elim|exact .inl ⟨_,_,rfl⟩
    |cons _ _=>cases x<;>exact hA3.elim
set_option tactic.hygienic true in
theorem JT(KO:fY X){w':S}(H:SE X n f'.e)(HC:SC X n f'.c)(O:bB X f n)(h3':(TN X.K X.C w'||X.C.ct.any λc=>(SX c.2.ms w').isSome)=true)(c:BY (iN X.K X.C f.scope k) es ps=true)(Z:aO X f m γ g s.heap)(hl:X.Ls f γ m l)(hE:vH X f m E Ψ s)(hQ:Mj X f m Φ Q γ s)
  {C d:Nat} {kk:Lk} (r:X.RV γ u (.inst C d)) (hlk:look X.C g (.inst C d) w'=some kk) (hA:yj f' l g es (.inst C d) kk Φ Ψ):MG X f own pos ps Q E (toS w') u s:=by
 obtain⟨x,dx,rfl,hr,hat⟩:=r.qA;unfold look at hlk;dsimp only at hlk;split at hlk
 ·rename_i kc tab ord hc hg;obtain⟨es',kk',kvs,ll,hm,I,hps,hk,hn,hp,ho,ht⟩:=vK Z O hr hat hg;have kg:=KO.I1 C kc hc;have q:=hp.valueAt w';rw[<- ht.1]at q;split at hlk
  ·rename_i fa hms hdg;split at hlk
   ·rename_i hcall;cases hlk;rw[hdg]at q;obtain⟨hfi,hfn⟩:=KO.ms C kc w' fa hc hms;refine method_inst Z.F O.X₀ I kg.1 hfi hfn ((p7 hps _).trans (congrArg some q)) ?_;refine kC H O (KO.keep fa hcall) c Z hl hA hE λvs g2 γ2 us h2 tk2 hA3 e2 Z2 r2=>?_;have rx:X.RV γ2 (.ref x) (.inst C d):=.inst (e2.rho _ _ hr) (hat.ext e2);exact HC f m g2 γ2 {s with heap:=h2,toks:=tk2} (.fn fa) (.inst C d::vs) (.ref fa) (.ref x::us) O Z2 (.fn fa) (.cons rx r2) Φ Ψ Q E hA3 (hE.at h2 tk2) λv' g' γ' u' h' tk' p e' Z' r'=>hQ v' g' γ' u' h' tk' p (e2.trans e') Z' r'
   ·cases hlk
  ·rename_i fa hms hdg;split at hlk
   ·rename_i hall hcall;cases hlk;rw[hdg]at q;obtain⟨uf,huf,ruf⟩:=q;have hat':TN X.K X.C w'=true:=by
     rcases Bool.or_eq_true_iff.mp h3' with z|z
     ·exact z
     ·obtain⟨cc,hcc,hs⟩:=List.any_eq_true.mp z;have:=List.all_eq_true.mp hall cc hcc;rw[Option.isNone_iff_eq_none]at this;rw[this]at hs;cases hs
    have hfi:=tV hat' hc;refine method_usual (O.X₀.keeps Z.F.keep) I (plainGet_of kg.1).1 (plainGet_of kg.1).2 hfi rfl ?_;refine get_own Z.F O.X₀ I kg.1 kg.2 hfi rfl ((p7 hps _).trans (congrArg some huf)) ruf.handed ?_;obtain rfl:=ruf.zZ;refine kC (first:=[]) (s:={s with toks:=s.toks+1}) H O (KO.keep fa hcall) c Z hl hA (hE.at s.heap _) λvs g2 γ2 us h2 tk2 hA3 e2 Z2 r2=>?_
    exact HC f m g2 γ2 {s with heap:=h2,toks:=tk2} (.fn fa) vs (.ref fa) us O Z2 (.fn fa) r2 Φ Ψ Q E hA3 (hE.at h2 tk2) λv' g' γ' u' h' tk' p e' Z' r'=>hQ v' g' γ' u' h' tk' p (e2.trans e') Z' r'
   ·cases hlk
  ·cases hlk
 ·cases hlk
theorem kE{p:Bool}{k kk:Lk}(h:(match p with|true=>some k|false=>none)=some kk):p=true/\k=kk:=by
 cases p with
 |false=>exact nomatch h
 |true=>exact⟨rfl,Option.some.inj h⟩
set_option tactic.hygienic true in
theorem Pk(KO:fY X){w':S}(H:SE X n f'.e)(HC:SC X n f'.c)(O:bB X f n)(h3':(TN X.K X.C w'||X.C.ct.any λc=>(SX c.2.ms w').isSome)=true)(c:BY (iN X.K X.C f.scope k) es ps=true)(Z:aO X f m γ g s.heap)(hl:X.Ls f γ m l)(hE:vH X f m E Ψ s)(hQ:Mj X f m Φ Q γ s)
  {v:V} {kk:Lk} (r:X.RV γ u v) (hlk:look X.C g v w'=some kk) (hA:yj f' l g es v kk Φ Ψ):MG X f own pos ps Q E (toS w') u s:=by
 cases v<;>first|exact nomatch (show none=some kk from hlk)|skip
 ·obtain⟨hw,rfl⟩:=kE hlk;rw[cY.mp hw,FQ];exact Np H O c Z hl hE hQ r hA
 ·obtain⟨hw,rfl⟩:=kE hlk;rw[cY.mp hw,BC];exact Nq KO H O c Z hl hE hQ r hA
 ·exact JT KO H HC O h3' c Z hl hE hQ r hlk hA
 ·rename_i i;obtain⟨a,rfl,hr⟩:=r.fC;have hlk:(match g.get i with
   | .list _=>match As w' lq with
    |true=>some Lk.app
    |false=>match As w' vf with
     |true=>some .idx
     |false=>none
   | .dict _ _=>match As w' EO with
    |true=>some .get
    |false=>none
   |_=>none)=some kk:=hlk
  cases hg:g.get i with
  |free=>rw[hg]at hlk;exact nomatch (show none=some kk from hlk)
  |pen=>rw[hg]at hlk;exact nomatch (show none=some kk from hlk)
  |list l'=>
   rw[hg]at hlk;cases hw:As w' lq with
   |true=>dsimp only at hlk;rw[hw]at hlk;obtain rfl:=Option.some.inj hlk;rw[cY.mp hw,BB];exact Nr H O c Z hl hE hQ hr hg hA
   |false=>dsimp only at hlk;rw[hw]at hlk;obtain⟨hw,rfl⟩:=kE hlk;rw[cY.mp hw,C2];exact Nt H O c Z hl hE hQ hr hg hA
  |dict tab ord=>rw[hg]at hlk;obtain⟨hw,rfl⟩:=kE hlk;rw[cY.mp hw,BC];exact Nu KO H O c Z hl hE hQ hr hg hA
 ·obtain⟨hw,rfl⟩:=kE hlk;rw[cY.mp hw,BB];exact Pj H O c Z hl hE hQ r hA
end
theorem C3(KO:fY X){f':Fs}{l:Loc}{k:Nat}{e:ME}{w':S}{p:Expr}{b:Str}{ap pos:Pos}{es:List ME}{ps:List Expr}(H:SE X n f'.e)(HC:SC X n f'.c)(O:bB X f n)
  (h1:toS w'=b) (h2:jz p=true) (h3:(ap.endLine==pos.line)=true) (h3':(TN X.K X.C w'||X.C.ct.any λc=>(SX c.2.ms w').isSome)=true) (h4:iN X.K X.C f.scope k e p=true) (c:BY (iN X.K X.C f.scope k) es ps=true) (c':es.length<=20) (Z:aO X f m γ g s.heap) (hl:X.Ls f γ m l):
  dh X f m (λγ' b a=>X.RV γ' b a) ((f'.e l g e).bind λv g=>match look X.C g v w' with
  |some k=>(evs f' l g es).bind λvs g=>Ua f' g v k vs
  |none=>.st) (eval (.Call (.Attribute p b ap) ps [] pos) f.env) γ s:=by
 subst h1;intro Φ Ψ Q E hA hE hQ;have hlen:ps.length=es.length:=by
  clear hA h3' h4;induction es generalizing ps with
  |nil=>cases ps<;>first|rfl|(cases c;done)
  |cons x es ih=>
   cases ps with
   |nil=>cases c
   |cons q ps=>have cc:(iN X.K X.C f.scope k x q&&BY (iN X.K X.C f.scope k) es ps)=true:=c;rw[Bool.and_eq_true]at cc;simp [ih cc.2 (Nat.le_of_succ_le c')]
 refine ya h2 h3 (qH c) (Nat.lt_of_le_of_lt (Nat.le_trans (Nat.le_of_eq hlen) c') (by decide)) ?_
 refine H f m l g γ s k e p O h4 Z hl _ Ψ _ E (R.All.bind.mp hA) hE λv g1 γ1 u hp1 tk1 hA1 e1 Z1 r1=>?_;cases hlk:look X.C g1 v w' with
 |none=>rw[hlk]at hA1;exact hA1.elim
 |some kk=>rw[hlk]at hA1;exact Pk (s:={s with heap:=hp1,toks:=tk1}) KO H HC O h3' c Z1 (hl.ext e1) (hE.at hp1 tk1) (λa g' γ' b h' tk p e' Z' r'=>hQ a g' γ' b h' tk p (e1.trans e') Z' r') r1 hlk (R.All.bind.mp hA1)
end
noncomputable def UW(K:Frag)(C:Cfg)(a:S):Bool:=C.ct.all λc=>takerIn K c.1 (toS a)==some none
noncomputable def FU(e:Expr):Bool:=!Nat.beq e.ctorIdx 25
noncomputable def qK(e:Expr):Bool:=!Nat.beq e.ctorIdx 7
noncomputable def qL(sc:Scope)(x:Nat):Expr->Bool:=S4 λy=>nm x==y&&eu sc y
noncomputable def UX(sc:Scope)(x:Nat)(q:Expr->List Stmt->Bool):Stmt->Bool:=U9 λt i b o=>Tq o&&S4 (λy=>nm x==y&&eu sc y) t&&q i b
@[elab_as_elim] theorem qM{sc:Scope}{x:Nat}{q:Expr->List Stmt->Bool}{G:Stmt->Prop}{e:Stmt}(h:UX sc x q e=true)(H:∀y np i b p,nm x=y->eu sc y=true->q i b=true->G (.For (.Name y np) i b [] p)):G e:=
 Bl h λt i b o p h=>fz (G:=λo=>G (.For t i b o p)) (aj (aj h)) (bI (G:=λt=>G (.For t i b [] p)) (ak (aj h)) λy np k=>H y np i b p (eq_of_beq (aj k)) (ak k) (ak h))
noncomputable def Pn(C:Cfg)(K:Frag)(sc:Scope)(r:ME->Expr->Bool)(rs:MS->Stmt->Bool):MS->Stmt->Bool
 | .expr e=>UR λp=>eS p&&r e p
 | .asg x e=>UP λl p=>one (S4 λy=>nm x==y&&eu sc y) l&&eS p&&r e p
 | .xg xs e=>UP λl p=>one (TS λes=>BY (qL sc) xs es) l&&eS p&&FU p&&r e p
 | .asgA o a e=>UP λl p=>one (Ub λpo b _=>toS a==b&&sok a&&UW K C a&&r o po) l&&eS p&&r e p
 | .g7 o i e=>UP λl p=>one (Ut λpo pi=>r o po&&r i pi) l&&eS p&&r e p
 | .aug x op e=>Vu λt o p=>S4 (λy=>nm x==y&&eu sc y) t&&CK op o&&(op==0||op==3)&&r e p
 | .ifs c a b=>sIf λpc pa pb=>r c pc&&BY rs a pa&&BY rs b pb
 | .gw x it b=>UX sc x λpit pb=>qK pit&&r it pit&&BY rs b pb
 | .g8 xs it b=>U9 λt pit pb o=>Tq o&&TS (λes=>BY (qL sc) xs es) t&&qK pit&&r it pit&&BY rs b pb
 | .forR x none hi b=>UX sc x λpit pb=>UQ sc "range" (one λph=>r hi ph) pit&&BY rs b pb
 | .forR x (some lo) hi b=>UX sc x λpit pb=>UQ sc "range" (two λpl ph=>r lo pl&&r hi ph) pit&&BY rs b pb
 | .whl c b=>Vv λpc pb o=>Tq o&&r c pc&&BY rs b pb
 | .ret none=>Va Vd
 | .ret (some e)=>Va (Vy λp=>r e p)
 | .raise s=>Vw λa b=>Vd b&&Vy (TM λf l w _=>Tq w&&S4 (λy=>y==("CheckFault":Str)&&b7 sc y) f&&one (Tp λc=>VI s c) l) a
 | .tr b x _=>Vx λpb l o z=>one (λ_=>true) l&&Tq o&&Tq z&&!(Nat.beq x C.exc)&&BY rs b pb
 | .cont=>US
 | .any=>λ_=>true
noncomputable def gv(K:Frag)(C:Cfg)(sc:Scope):Nat->MS->Stmt->Bool
 |0,_,_=>false
 |k+1,ms,ps=>Pn C K sc (iN K C sc k) (gv K C sc k) ms ps
noncomputable def V4(X:Cx)(f:Fm)(h:Heap)(e:Addr):Prop:=
 f.h₀.get? e=none/\∃oe vs a0,h.get? e=some oe/\oe.cls=.ref X.CF/\oe.data=.fields vs/\vs[0]?=some a0/\vs[1]?=some .none
structure lQ(X:Cx)(f:Fm)(E:Value->Shared->Prop)(Ψ:Prop)(s:Shared):Prop where
 MU:PassesOwn X.M f.A f.env E
 EA:Ψ->∀m e a0 g₂ h' tk,Fr f.h₀ f.L g₂ m->g₂.UpToSlots h'->Heap.FlyingW f.base (f.env::f.outer) e (.ref X.CF) a0 h'->E (.ref e) {s with heap:=h',toks:=tk}
 made:Ψ->∀m e h' tk,Fr f.h₀ f.L h' m->V4 X f h' e->E (.ref e) {s with heap:=h',toks:=tk}
theorem lQ.zN{X:Cx}{f:Fm}{E:Value->Shared->Prop}{Ψ:Prop}{s:Shared}(h:lQ X f E Ψ s)(m:Str->Option Value):vH X f m E Ψ s:=⟨h.MU,λp=>h.EA p m⟩
theorem lQ.at{X:Cx}{f:Fm}{E:Value->Shared->Prop}{Ψ:Prop}{s:Shared}(h:lQ X f E Ψ s)(h':Heap)(tk:Nat):lQ X f E Ψ {s with heap:=h',toks:=tk}:=⟨h.MU,h.EA,h.made⟩
noncomputable def BD(X:Cx)(f:Fm)(m:Str->Option Value)(γ:Ga):Flow->Fl->Prop
 | .next,.next l=>X.Ls f γ m l
 | .cont,.cont l=>X.Ls f γ m l
 | .ret u,.ret v=>X.RV γ u v
 |_,_=>False
noncomputable def g9(X:Cx)(f:Fm)(t:R Fl)(sem:Sem Flow)(γ:Ga)(s:Shared):Prop:=
 ∀(Φ:Fl->G->Prop)(Ψ:Prop)(Q:Flow->Shared->Prop)(E:Value->Shared->Prop),t.All Φ Ψ->lQ X f E Ψ s->
  (∀x g' γ' b h' tk m',Φ x g'->Ext γ γ'->aO X f m' γ' g' h'->BD X f m' γ' b x->Q b {s with heap:=h',toks:=tk})->wpAny X.M f.A sem Q E s
noncomputable def SS(X:Cx)(n:Nat)(fsn:Loc->G->MS->R Fl):Prop:=
 ∀(f:Fm)(m:Str->Option Value)(l:Loc)(g:G)(γ:Ga)(s:Shared)(k:Nat)(ms:MS)(ps:Stmt),
  bB X f n->gv X.K X.C f.scope k ms ps=true->aO X f m γ g s.heap->X.Ls f γ m l->g9 X f (fsn l g ms) (exec ps f.env) γ s
section
variable{X:Cx}{f:Fm}{m:Str->Option Value}{γ:Ga}{g:G}{s:Shared}{n:Nat}{l:Loc}{k:Nat}
theorem g9.stop{sem:Sem Flow}:g9 X f R.st sem γ s:=λ_ _ _ _ hA _ _=>hA.elim
theorem BD.kF{b:Flow}{l:Loc}(h:BD X f m γ b (.next l)):b=.next/\X.Ls f γ m l:=by
 cases b with
 |next=>exact⟨rfl,h⟩
 |_=>exact h.elim
theorem BD.mY{b:Flow}{l:Loc}(h:BD X f m γ b (.cont l)):b=.cont/\X.Ls f γ m l:=by
 cases b with
 |cont=>exact⟨rfl,h⟩
 |_=>exact h.elim
theorem BD.mZ{b:Flow}{v:V}(h:BD X f m γ b (.ret v)):∃u,b=.ret u/\X.RV γ u v:=by
 cases b with
 |ret u=>exact⟨u,rfl,h⟩
 |_=>exact h.elim
noncomputable def gA(X:Cx)(f:Fm)(Φ:Fl->G->Prop)(Q:Flow->Shared->Prop)(γ:Ga)(s:Shared):Prop:=∀x g' γ' b h' tk m',Φ x g'->Ext γ γ'->aO X f m' γ' g' h'->BD X f m' γ' b x->Q b {s with heap:=h',toks:=tk}
theorem gA.at{Φ:Fl->G->Prop}{Q:Flow->Shared->Prop}{γ':Ga}(h:gA X f Φ Q γ s)(e:Ext γ γ')(h':Heap)(tk:Nat):gA X f Φ Q γ' {s with heap:=h',toks:=tk}:=λx g2 γ2 b h2 tk2 m2 p e2 Z2 r=>h x g2 γ2 b h2 tk2 m2 p (e.trans e2) Z2 r
theorem lE{f':Fs}(H:SS X n f'.s)(O:bB X f n){b:List MS}:∀{ps:List Stmt}{l:Loc}{g:G}{γ:Ga}{s:Shared}{m:Str->Option Value},BY (gv X.K X.C f.scope k) b ps=true->aO X f m γ g s.heap->X.Ls f γ m l->
  g9 X f (blk f' l g b) (execs ps f.env) γ s:=by
 induction b with
 |nil=>exactλ{ps l g γ s m} c Z hl=>match ps,c with
  |[],_=>λΦ Ψ Q E hA hE hQ=>wpAny_execs_nil (hQ (.next l) g γ .next s.heap s.toks m hA (Ext.refl γ) Z hl)
  |_::_,c=>ff c
 |cons c b ih=>exactλ{ps l g γ s m} hc Z hl=>match ps,hc with
  |[],hc=>ff hc
  |p::ps,hc=>λΦ Ψ Q E hA hE hQ=>by
   refine wpAny_execs_cons (H f m l g γ s k c p O (aj hc) Z hl _ Ψ _ E (R.All.bind.mp hA) hE λx g1 γ1 fl h1 tk1 m1 hA1 e1 Z1 r1=>?_);have hQ:=gA.at hQ e1 h1 tk1;clear hA Z hl;cases x with
   |next l1=>obtain⟨rfl,r1⟩:=r1.kF;exact ih (γ:=γ1) (s:={s with heap:=h1,toks:=tk1}) (ak hc) Z1 r1 Φ Ψ Q E hA1 (hE.at h1 tk1) hQ
   |cont l1=>obtain⟨rfl,r1⟩:=r1.mY;exact hQ (.cont l1) g1 γ1 .cont h1 tk1 m1 hA1 (Ext.refl _) Z1 r1
   |ret v=>obtain⟨u,rfl,r1⟩:=r1.mZ;exact hQ (.ret v) g1 γ1 (.ret u) h1 tk1 m1 hA1 (Ext.refl _) Z1 r1
theorem i9{p:Expr}{t:Option Expr}{ln:Nat}{env:Env}(h:eS p=true):swapsWith p t ln env=pure false:=by cases p<;>first|rfl|exact ff h
theorem aO.set(Z:aO X f m γ g s.heap)(hl:X.Ls f γ m l)(O:bB X f n){x:Nat}{y:Str}{u:Value}{v:V}(e:nm x=y)(hy:eu f.scope y=true)(r:X.RV γ u v){Q:Unit->Shared->Prop}{E:Value->Shared->Prop}
  (h:∀h' m',aO X f m' γ g h'->X.Ls f γ m' (bY l x v)->Q () {s with heap:=h',toks:=s.toks+1}):wpAny X.M f.A (storeName f.env y u) Q E s:=by
 subst e;exact storeX_L Z.F Z.N (λh' F' N'=>h h' _ ⟨F',N',Z.gk⟩ (hl.set x (O.kl _ (eG hy).1) r)) O.kind (eG hy).1
theorem C4{f':Fs}{e:ME}{p:Expr}{pos:Pos}(H:SE X n f'.e)(O:bB X f n)(h1:eS p=true)(h2:iN X.K X.C f.scope k e p=true)(Z:aO X f m γ g s.heap)(hl:X.Ls f γ m l):
  g9 X f ((f'.e l g e).bind λ_ g=>.ok (.next l) g) (exec (.Expr p pos) f.env) γ s:=by
 intro Φ Ψ Q E hA hE hQ;refine wpAny_Expr_any ?_ (by show(f.scope.kind==.module&&_)=false;rw[O.kind];rfl) (i9 h1)
 exact H f m l g γ s k e p O h2 Z hl _ Ψ _ E (R.All.bind.mp hA) (hE.zN m) λv g1 γ1 u h1 tk1 hA1 e1 Z1 r1=>hQ (.next l) g1 γ1 .next h1 tk1 m hA1 e1 Z1 (hl.ext e1)
theorem FW{f':Fs}{x:Nat}{y:Str}{e:ME}{p:Expr}{np pos:Pos}(H:SE X n f'.e)(O:bB X f n)(hx:nm x=y)(hy:eu f.scope y=true)(h1:eS p=true)(h2:iN X.K X.C f.scope k e p=true)(Z:aO X f m γ g s.heap)(hl:X.Ls f γ m l):
  g9 X f ((f'.e l g e).bind λv g=>.ok (.next (bY l x v)) g) (exec (.Assign [.Name y np] p pos) f.env) γ s:=by
 intro Φ Ψ Q E hA hE hQ;refine wpAny_Assign_Name ?_ (i9 h1);refine H f m l g γ s k e p O h2 Z hl _ Ψ _ E (R.All.bind.mp hA) (hE.zN m) λv g1 γ1 u h1 tk1 hA1 e1 Z1 r1=>?_;exact aO.set (s:={s with heap:=h1,toks:=tk1}) Z1 (hl.ext e1) O hx hy r1 λh' m' Z' hl'=>hQ _ g1 γ1 .next h' _ m' hA1 e1 Z' hl'
theorem C5{sc:Scope}{env:Env}{xs:List Nat}:∀{es:List Expr},BY (qL sc) xs es=true->(assignEach es env).length=xs.length/\List.findIdx? (λx=>x.1) (assignEach es env)=none:=by
 induction xs with
 |nil=>exactλ{es} h=>match es,h with
  |[],_=>⟨rfl,rfl⟩
  |_::_,h=>ff h
 |cons x xs ih=>exactλ{es} h=>match es,h with
  |[],h=>ff h
  |e::es,h=>bI (G:=λe=>(assignEach (e::es) env).length=xs.length+1/\List.findIdx? (λx=>x.1) (assignEach (e::es) env)=none) (aj h) λy pos _=>by
   obtain⟨i1,i2⟩:=ih (ak h);refine⟨congrArg (·+1) i1,?_⟩
   refine(?_:List.findIdx? (λx=>x.1) ((false,_)::assignEach es env)=none);rw[List.findIdx?_cons,i2];rfl
theorem C6(O:bB X f n){xs:List Nat}:∀{es:List Expr}{us:List Value}{vs:List V}{l l':Loc}{s:Shared}{m:Str->Option Value},BY (qL f.scope) xs es=true->X.cH γ us vs->Uq l xs vs=some l'->aO X f m γ g s.heap->X.Ls f γ m l->
  ∀{Q:Unit->Shared->Prop}{E:Value->Shared->Prop},(∀h' tk m',aO X f m' γ g h'->X.Ls f γ m' l'->Q () {s with heap:=h',toks:=tk})->wpAny X.M f.A (assignInOrder ((assignEach es f.env).map (·.2)) us) Q E s:=by
 induction xs with
 |nil=>
  intro es us vs l l' s m h r hs Z hl Q E hQ;cases es with
  |cons _ _=>exact ff h
  |nil=>cases vs with
   |cons _ _=>exact aL hs
   |nil=>obtain rfl:=Option.some.inj hs;obtain rfl:=r.nil_inv;exact wpAny_pure (hQ s.heap s.toks m Z hl)
 |cons x xs ih=>
  intro es us vs l l' s m h r hs Z hl Q E hQ;cases es with
  |nil=>exact ff h
  |cons e es=>cases vs with
   |nil=>exact aL hs
   |cons v vs=>
    obtain⟨u,us,rfl,rv,rs⟩:=r.cons_inv;have h2:=ak h;refine bI (x:=e) (aj h) λy pos k=>?_;refine(?_:wpAny X.M f.A (do holding us (assign (.Name y pos) f.env u);assignInOrder ((assignEach es f.env).map (·.2)) us) Q E s)
    refine wpAny_bind (wpAny_holding (wpAny_assign_Name ?_));exact aO.set Z hl O (eq_of_beq (aj k)) (ak k) rv λh' m' Z' hl'=>ih (s:={s with heap:=h',toks:=s.toks+1}) h2 rs hs Z' hl' hQ
theorem C7{xs:List Nat}:∀{vs:List V}{l l':Loc},Uq l xs vs=some l'->xs.length=vs.length:=by
 induction xs with
 |nil=>exactλ{vs l l'} h=>match vs,h with
  |[],_=>rfl
  |_::_,h=>aL h
 |cons x xs ih=>exactλ{vs l l'} h=>match vs,h with
  |[],h=>aL h
  |_::_,h=>congrArg (·+1) (ih h)
theorem ue(O:bB X f n){xs:List Nat}{es:List Expr}{kk:Nat}{pos:Pos}{u:Value}{v:V}{l':Loc}(h:BY (qL f.scope) xs es=true)(r:X.RV γ u v)(hs:SK l xs v=some l')(Z:aO X f m γ g s.heap)(hl:X.Ls f γ m l)
  {Q:Unit->Shared->Prop} {E:Value->Shared->Prop} (hQ:∀h' tk m',aO X f m' γ g h'->X.Ls f γ m' l'->Q () {s with heap:=h',toks:=tk}):wpAny X.M f.A (assign (.Tuple es kk pos) f.env u) Q E s:=by
 cases v with
 |tup vs=>obtain⟨_,_,_,rfl,ha,hr,hz⟩:=r.fB;obtain⟨e1,e2⟩:=C5 (env:=f.env) h;exact unpackN_ Z.F Z.N (iK Z O ha) O.hh (by rw[e1,List.size_toArray,hr.length,C7 hs]) e2 λh' F' N'=>C6 O (s:={s with heap:=h'}) h hr hs ⟨F',N',Z.gk⟩ hl hQ
 |_=>exact aL hs
theorem C8{f':Fs}{xs:List Nat}{es:List Expr}{kk:Nat}{tp:Pos}{e:ME}{p:Expr}{pos:Pos}(H:SE X n f'.e)(O:bB X f n)(hx:BY (qL f.scope) xs es=true)(h1:eS p=true)(h1':FU p=true)(h2:iN X.K X.C f.scope k e p=true)(Z:aO X f m γ g s.heap)(hl:X.Ls f γ m l):
  g9 X f ((f'.e l g e).bind λv g=>match SK l xs v with
  |some l=>.ok (.next l) g
  |none=>.st) (exec (.Assign [.Tuple es kk tp] p pos) f.env) γ s:=by
 intro Φ Ψ Q E hA hE hQ;refine Assign_Tuple ?_ (by unfold swapsWithSole;exact i9 h1) (by cases p<;>first|rfl|exact ff h1')
 refine H f m l g γ s k e p O h2 Z hl _ Ψ _ E (R.All.bind.mp hA) (hE.zN m) λv g1 γ1 u h1 tk1 hA1 e1 Z1 r1=>?_;cases hl':SK l xs v with
 |none=>rw[hl']at hA1;exact hA1.elim
 |some l'=>rw[hl']at hA1;exact ue (s:={s with heap:=h1,toks:=tk1}) O hx r1 hl' Z1 (hl.ext e1) λh' tk m' Z' hl''=>hQ _ g1 γ1 .next h' tk m' hA1 e1 Z' hl''
inductive Q5(c c':By)(k:S)(v:V):Prop
 |mk (tab:List (S×Option V)) (ord:List S) (t':List (S×Option V)) (e:c=.dict tab ord) (h:T5 tab k v=some t') (e':c'=.dict t' (EN tab ord k))
theorem By.BE{c c':By}{k:S}{v:V}(h:c.put k v=some c'):Q5 c c' k v:=by
 cases c with
 |dict tab ord=>
  have h:(match T5 tab k v with|some t=>some (By.dict t (EN tab ord k))|none=>none)=some c':=h
  cases ht:T5 tab k v with
  |some t'=>rw[ht]at h;exact⟨tab,ord,t',rfl,ht,(Option.some.inj h).symm⟩
  |none=>rw[ht]at h;exact aL h
 |_=>exact aL h
inductive yl(X:Cx)(f:Fm)(m:Str->Option Value)(Φ:Unit->G->Prop)(γ:Ga)(h:Heap):Prop
 |mk (g:G) (γ':Ga) (p:Φ () g) (e:Ext γ γ') (Z:aO X f m γ' g h)
theorem ym(Z:aO X f m γ g s.heap){i:Nat}{d:Addr}{tab t':List (S×Option V)}{ord:List S}{k:S}{u:Value}{v:V}{o':Obj}{kvs:List (Str×Value)}{ll:List (S×V)}{h':Heap}{Φ:Unit->G->Prop}{Ψ:Prop}
  (hr:γ.rho.lookup i=some d) (hk:sok k=true) (rv:X.RV γ u v) (hp:X.gR γ kvs ll) (ho:ll.map (·.1)=ord) (ht:mQ tab ll) (hs:T5 tab k v=some t') {o:Obj} (hm:(d,o)∈γ.news)
  (hd':o'.IsDictOf (strKind X.prog X.w) (Uk (toS k) u kvs)) (F':Fr f.h₀ f.L h' m) (N':News f.h₀ f.L h' (Mine.upd γ.news d o')) (hA:(g.set i (.dict t' (EN tab ord k))).All Φ Ψ):yl X f m Φ γ h':=by
 have ed:Ext γ (γ.upd d o'):=Ext.upd (Z.gk.lu hr);obtain⟨hlk,hA⟩:=UG hA;obtain⟨t1,t2,t3⟩:=Jg ht hs;exact⟨_,_,hA,ed,F',N',Z.gk.upd hr hlk (Nat.le_refl _) ⟨d,o',_,_,hr,mS hm,hd',(hp.put hk rv).ext ed,by rw[t2,ho],t1⟩⟩
theorem FY{a:S}{c:Nat}{k:EM}(h:UW X.K X.C a=true)(hc:aT X.C.ct c=some k):takerIn X.K c (toS a)=some none:=
 eq_of_beq (List.all_eq_true.mp h _ (fZ hc))
noncomputable def V5(C:Cfg)(g:G)(a:S)(v w:V)(k:G->R Fl):R Fl:=match w with
  | .inst kc d=>match aT C.ct kc,(g.get d).put a v with
   |some _,some c=>(g.set d c).bind λ_ g=>k g
   |_,_=>.st
  |_=>.st
inductive Q6(C:Cfg)(g:G)(a:S)(v w:V)(k:G->R Fl)(Φ:Fl->G->Prop)(Ψ:Prop):Prop
 |mk (c d:Nat) (kc:EM) (cl:By) (e:w=.inst c d) (hc:aT C.ct c=some kc) (hp:(g.get d).put a v=some cl) (h:(g.set d cl).All (λ_ g=>(k g).All Φ Ψ) Ψ)
theorem FZ{C:Cfg}{a:S}{v w:V}{k:G->R Fl}{Φ:Fl->G->Prop}{Ψ:Prop}(h:(V5 C g a v w k).All Φ Ψ):Q6 C g a v w k Φ Ψ:=by
 cases w with
 |inst c d=>
  have h:(match aT C.ct c,(g.get d).put a v with|some _,some c=>(g.set d c).bind λ_ g=>k g|_,_=>R.st).All Φ Ψ:=h
  cases hc:aT C.ct c with
  |none=>rw[hc]at h;exact h.elim
  |some kc=>cases hp:(g.get d).put a v with
   |none=>rw[hc,hp]at h;exact h.elim
   |some cl=>rw[hc,hp]at h;exact⟨c,d,kc,cl,rfl,hc,hp,R.All.bind.mp h⟩
 |_=>exact h.elim
theorem JU(KO:fY X)(Z:aO X f m γ g s.heap)(O:bB X f n){a:S}{u uo:Value}{v:V}{C d:Nat}{kc:EM}{c:By}{Φ:Unit->G->Prop}{Ψ:Prop}(hsok:sok a=true)(htk:UW X.K X.C a=true)(rv:X.RV γ u v)(ro:X.RV γ uo (.inst C d))(hc:aT X.C.ct C=some kc)(hput:(g.get d).put a v=some c)
  (hA:(g.set d c).All Φ Ψ) {Q:Unit->Shared->Prop} {E:Value->Shared->Prop} (hQ:∀h' tk,yl X f m Φ γ h'->Q () {s with heap:=h',toks:=tk}):wpAny X.M f.A (setAttr uo (toS a) u) Q E s:=by
 obtain⟨tab,ord,t',hg,hs,rfl⟩:=By.BE hput;obtain⟨x,dx,rfl,hr,hat⟩:=ro.qA;obtain⟨es,kk,kvs,ll,hm,I,hps,hk,hn,hp,ho,ht⟩:=vK Z O hr hat hg;have ks:=KO.Qs C kc hc;have hkeys:EW X.prog X.w es:=λe he=>hk e (List.mem_toArray.mpr he);have hput:=Jf (prog:=X.prog) (w:=X.w) (toS a) (s.toks+1) u hkeys hps;refine set_dict Z.F O.X₀ Z.N I rfl ks.1 ks.2 (FY htk hc) (KO.I1 C kc hc).2 (by rw[p7 hps];rfl) rfl (mT Z.gk.nd hm) (Nat.le_trans (xG _ _ _ _ _) (Nat.le_trans (Nat.succ_le_succ (by rw[hps.length,lD hp];exact ht.le)) (by decide))) λh' F' N'=>?_
 have hd':=lT (n:=putN (toS a) es kk) (λe he=>hput.1 e (List.mem_toArray.mp he)) hput.2 (qy hn);exact hQ h' _ (ym Z hr hsok rv hp ho ht hs hm hd' F' N' hA)
theorem C9(KO:fY X){f':Fs}{o e:ME}{a:S}{b:Str}{p po:Expr}{ap pos:Pos}(H:SE X n f'.e)(O:bB X f n)(ha:toS a=b)(hsok:sok a=true)(htk:UW X.K X.C a=true)(h1:eS p=true)(h2:iN X.K X.C f.scope k e p=true)(h3:iN X.K X.C f.scope k o po=true)(Z:aO X f m γ g s.heap)(hl:X.Ls f γ m l):
  g9 X f ((f'.e l g e).bind λv g=>(f'.e l g o).bind λw g=>V5 X.C g a v w λg=>.ok (.next l) g) (exec (.Assign [.Attribute po b ap] p pos) f.env) γ s:=by
 subst ha;intro Φ Ψ Q E hA hE hQ;refine plainObj_wpAny_Assign_Attribute ?_ (i9 h1);refine H f m l g γ s k e p O h2 Z hl _ Ψ _ E (R.All.bind.mp hA) (hE.zN m) λv g1 γ1 u hp1 tk1 hA1 e1 Z1 r1=>?_;refine H f m l g1 γ1 _ k o po O h3 Z1 (hl.ext e1) _ Ψ _ E (R.All.bind.mp hA1) ((hE.at hp1 tk1).zN m) λw g2 γ2 uo hp2 tk2 hA2 e2 Z2 r2=>?_;have hl:=(hl.ext e1).ext e2;have e:=e1.trans e2;have r1:=r1.ext e2;clear hA hA1 Z Z1 e1 e2;obtain⟨C,d,kc,c,rfl,hc,hput,hA3⟩:=FZ hA2;exact JU (Φ:=λ_ g=>Φ (.next l) g) (Ψ:=Ψ) (s:={s with heap:=hp2,toks:=tk2}) KO Z2 O hsok htk r1 r2 hc hput hA3 λh' tk ⟨g3,γ3,p3,e3,Z3⟩=>hQ (.next l) g3 γ3 .next h' tk m p3 (e.trans e3) Z3 (hl.ext e3)
theorem Vi{h₀ h h':Heap}{L d:Addr}{news:List (Addr×Obj)}{o o':Obj}(N:News h₀ L h news)(hm:(d,o)∈news)(hs:Heap.SameBut d h h')(ho:h'.get? d=some o'):News h₀ L h' (Mine.upd news d o'):=by
 intro p hp;obtain⟨q,hq,rfl⟩:=List.mem_map.mp hp;by_cases e:q.1=d
 ·rw[if_pos e];exact⟨ho,(N _ hm).2⟩
 ·rw[if_neg e];exact⟨(hs.2 _ e).trans (N q hq).1,(N q hq).2⟩
theorem Dc{v:Value}{vs:List Value}:∀{j:Nat},j < vs.length->ki_setL vs j v=some (vs.set j v):=by
 induction vs with
 |nil=>exactλh=>absurd h (Nat.not_lt_zero _)
 |cons x vs ih=>exactλ{j} h=>match j,h with
  |0,_=>rfl
  |j+1,h=>by
   refine(?_:(match ki_setL vs j v with|some r=>some (x::r)|none=>none)=_)
   rw[ih (Nat.lt_of_succ_lt_succ h)];rfl
theorem F3(Z:aO X f m γ g s.heap)(O:bB X f n){u uo ui:Value}{v:V}{j:Nat}{vs:List V}{i:Int}{Φ:Unit->G->Prop}{Ψ:Prop}(rv:X.RV γ u v)(ro:X.RV γ uo (.ref j))(ri:X.RV γ ui (.int i))(hg:g.get j=.list vs)(h0:0<=i)(hb:i.toNat < vs.length)
  (hA:(g.set j (.list (vs.set i.toNat v))).All Φ Ψ) {Q:Unit->Shared->Prop} {E:Value->Shared->Prop} (hQ:∀h' tk,yl X f m Φ γ h'->Q () {s with heap:=h',toks:=tk}):wpAny X.M f.A (setItem uo ui u) Q E s:=by
 obtain⟨_,rfl,hr⟩:=ro.fC;obtain⟨t,rfl⟩:=ri.int_inv;obtain⟨d,its,c,r,hm,hrs,hz⟩:=dG Z hg;obtain rfl:=Option.some.inj (hr.symm.trans r);obtain⟨hlk,hA⟩:=UG hA;refine ki_set Z.F Z.N h0 (vL (Int.toNat_le.mp (Nat.le_trans (Nat.le_of_lt hb) (Nat.le_trans (Nat.le_add_right _ _) hz)))) (Dc (v:=u) (vs:=its) (j:=i.toNat) (hrs.length▸hb)) (mT Z.gk.nd hm) λh' F' N'=>?_;have ed:Ext γ (γ.upd _ (PySem.W.listOf (its.set i.toNat u).toArray c)):=Ext.upd (Z.gk.lu hr);exact hQ h' s.toks ⟨_,_,hA,ed,F',N',Z.gk.upd hr hlk (Nat.le_refl _) ⟨_,_,c,hr,mS hm,(hrs.ext ed).set i.toNat (rv.ext ed),by rw[List.length_set];exact hz⟩⟩
theorem F4(Z:aO X f m γ g s.heap)(O:bB X f n){u uo ui:Value}{v:V}{j:Nat}{ks:S}{c:By}{Φ:Unit->G->Prop}{Ψ:Prop}(rv:X.RV γ u v)(ro:X.RV γ uo (.ref j))(ri:X.RV γ ui (.str ks))(hput:(g.get j).put ks v=some c)
  (hA:(g.set j c).All Φ Ψ) {Q:Unit->Shared->Prop} {E:Value->Shared->Prop} (hQ:∀h' tk,yl X f m Φ γ h'->Q () {s with heap:=h',toks:=tk}):wpAny X.M f.A (setItem uo ui u) Q E s:=by
 obtain⟨tab,ord,t',hgt,hs,rfl⟩:=By.BE hput;obtain⟨_,rfl,hr⟩:=ro.fC;obtain⟨t,rfl,hks⟩:=ri.str_inv;obtain⟨d,o,kvs,ll,r,hm,hd,hp,ho,ht⟩:=cU Z hgt;obtain rfl:=Option.some.inj (hr.symm.trans r);have hD:s.heap.DictOf (strKind X.prog X.w) _ kvs:=Heap.dictOf_iff.mpr ⟨o,Z.N.get hm,hd⟩;have hnd:(kvs.map (·.1)).Nodup:=by obtain⟨_,_,_,_,_,hn⟩:=jL hd;exact hn
 refine wpAny_setItem_pairs (tW ks t) hD (λh' hD' hsb=>?_) (cZ (by rw[lD hp];exact Nat.le_trans ht.le (by decide)))
 obtain⟨o',ho',hd'⟩:=Heap.dictOf_iff.mp hD';rw[o7 hnd]at hd';exact hQ h' _ (ym Z hr hks rv hp ho ht hs hm hd' (Z.F.change hsb (Z.N _ hm).2.1 (Z.N _ hm).2.2) (Vi Z.N hm hsb ho') hA)
noncomputable def V6(g:G)(v w k:V)(c:G->R Fl):R Fl:=match w with
  | .ref j=>match Te (g.get j) k v with
   |some cl=>(g.set j cl).bind λ_ g=>c g
   |none=>.st
  |_=>.st
theorem F5{v w k:V}{c:G->R Fl}{Φ:Fl->G->Prop}{Ψ:Prop}(h:(V6 g v w k c).All Φ Ψ):∃j cl,w=.ref j/\Te (g.get j) k v=some cl/\(g.set j cl).All (λ_ g=>(c g).All Φ Ψ) Ψ:=by
 cases w with
 |ref j=>
  have h:(match Te (g.get j) k v with|some cl=>(g.set j cl).bind λ_ g=>c g|none=>R.st).All Φ Ψ:=h
  cases hp:Te (g.get j) k v with
  |none=>rw[hp]at h;exact h.elim
  |some cl=>rw[hp]at h;exact⟨j,cl,rfl,hp,R.All.bind.mp h⟩
 |_=>exact h.elim
theorem Nv(Z:aO X f m γ g s.heap)(O:bB X f n){u uo ui:Value}{v k:V}{j:Nat}{c:By}{Φ:Unit->G->Prop}{Ψ:Prop}(rv:X.RV γ u v)(ro:X.RV γ uo (.ref j))(ri:X.RV γ ui k)(h:Te (g.get j) k v=some c)
  (hA:(g.set j c).All Φ Ψ) {Q:Unit->Shared->Prop} {E:Value->Shared->Prop} (hQ:∀h' tk,yl X f m Φ γ h'->Q () {s with heap:=h',toks:=tk}):wpAny X.M f.A (setItem uo ui u) Q E s:=by
 cases hg:g.get j with
 |list vs=>rw[hg]at h;obtain⟨i,rfl,h⟩:=eU h;have h:=cJ h;obtain rfl:=Option.some.inj h.2;exact F3 Z O rv ro ri hg (of_decide_eq_true (aj h.1)) (Nat.blt_eq.mp (ak h.1)) hA hQ
 |_=>rw[hg]at h;obtain⟨ks,rfl,h⟩:=jM h;exact F4 Z O rv ro ri (by rw[hg];exact h) hA hQ
theorem Dd(KO:fY X){f':Fs}{o i e:ME}{p po pi:Expr}{ap pos:Pos}(H:SE X n f'.e)(O:bB X f n)(h1:eS p=true)(h2:iN X.K X.C f.scope k e p=true)(h3:iN X.K X.C f.scope k o po=true)(h4:iN X.K X.C f.scope k i pi=true)(Z:aO X f m γ g s.heap)(hl:X.Ls f γ m l):
  g9 X f ((f'.e l g e).bind λv g=>(f'.e l g o).bind λw g=>(f'.e l g i).bind λk g=>V6 g v w k λg=>.ok (.next l) g) (exec (.Assign [.Subscript po pi ap] p pos) f.env) γ s:=by
 intro Φ Ψ Q E hA hE hQ;refine wpAny_Assign_Subscript ?_ (i9 h1);refine H f m l g γ s k e p O h2 Z hl _ Ψ _ E (R.All.bind.mp hA) (hE.zN m) λv g1 γ1 u hp1 tk1 hA1 e1 Z1 r1=>?_;refine H f m l g1 γ1 _ k o po O h3 Z1 (hl.ext e1) _ Ψ _ E (R.All.bind.mp hA1) ((hE.at hp1 tk1).zN m) λw g2 γ2 uo hp2 tk2 hA2 e2 Z2 r2=>?_;refine H f m l g2 γ2 _ k i pi O h4 Z2 ((hl.ext e1).ext e2) _ Ψ _ E (R.All.bind.mp hA2) ((hE.at hp2 tk2).zN m) λki g3 γ3 ui hp3 tk3 hA3 e3 Z3 r3=>?_;have r1:=(r1.ext e2).ext e3;have r2:=r2.ext e3;have e:=(e1.trans e2).trans e3;have hl:=hl.ext e;clear hA hA1 hA2 Z Z1 Z2 e1 e2 e3;obtain⟨j,c,rfl,hp,hA4⟩:=F5 hA3;exact Nv (Φ:=λ_ g=>Φ (.next l) g) (Ψ:=Ψ) (s:={s with heap:=hp3,toks:=tk3}) Z3 O r1 r2 r3 hp hA4 λh' tk ⟨g4,γ4,p4,e4,Z4⟩=>hQ (.next l) g4 γ4 .next h' tk m p4 (e.trans e4) Z4 (hl.ext e4)
noncomputable def V7(g:G)(op:Nat)(i:Int)(w:V)(k:V->R Fl):R Fl:=match w with
   | .int j=>match S6 g op (.int i) (.int j)with
    |some r=>k r
    |none=>.st
   |_=>.st
theorem F6{op:Nat}{i:Int}{w:V}{k:V->R Fl}{Φ:Fl->G->Prop}{Ψ:Prop}(h:(V7 g op i w k).All Φ Ψ):∃j r,w=.int j/\S6 g op (.int i) (.int j)=some r/\(k r).All Φ Ψ:=by
 cases w with
 |int j=>
  have h:(match S6 g op (.int i) (.int j)with|some r=>k r|none=>R.st).All Φ Ψ:=h
  cases hb:S6 g op (.int i) (.int j)with
  |none=>rw[hb]at h;exact h.elim
  |some r=>rw[hb]at h;exact⟨j,r,rfl,hb,h⟩
 |_=>exact h.elim
theorem Nx{op:Nat}{o:Operator}{i j:Int}{t t':Tok}{r:V}(ho:CK op o=true)(hop:(op==0||op==3)=true)(h:S6 g op (.int i) (.int j)=some r){Q:Value->Shared->Prop}{E:Value->Shared->Prop}(hQ:∀i',r=.int i'->Q (.int i' s.toks) {s with toks:=s.toks+1}):
  wpAny X.M f.A (inplaceOp o (.int i t) (.int j t')) Q E s:=by
 obtain rfl:=Ve (ak ho);rcases Bool.or_eq_true_iff.mp hop with z|z
 ·obtain rfl:=eq_of_beq z;exact iadd_int (hQ _ (Option.some.inj h).symm)
 ·obtain rfl:=eq_of_beq z;have h:=cJ (show grd (!decide (j=0)&&decide (j.natAbs < 1073741824)) (some (V.int (Int.fdiv i j)))=some r from h);exact ifloordiv_int (of_decide_eq_false ((Bool.not_eq_true' _).mp (aj h.1))) (hQ _ (Option.some.inj h.2).symm) (.inl (PyProof.noPylong_small (of_decide_eq_true (ak h.1))))
theorem F7{f':Fs}{x op:Nat}{y:Str}{o:Operator}{e:ME}{p:Expr}{np pos:Pos}(H:SE X n f'.e)(O:bB X f n)(hx:nm x=y)(hy:eu f.scope y=true)(ho:CK op o=true)(hop:(op==0||op==3)=true)(h2:iN X.K X.C f.scope k e p=true)(Z:aO X f m γ g s.heap)(hl:X.Ls f γ m l):
  g9 X f (match aT l x with
  |some (.int i)=>(f'.e l g e).bind λw g=>V7 g op i w λr=>.ok (.next (bY l x r)) g
  |_=>.st) (exec (.AugAssign (.Name y np) o p pos) f.env) γ s:=by
 subst hx;cases hi:aT l x with
 |none=>exact g9.stop
 |some v0=>cases v0 with
  |int i=>intro Φ Ψ Q E hA hE hQ;obtain⟨u0,hu0,r0⟩:=hl x _ hi;refine wpAny_AugAssign_Name (wpAny_loadName_local O.kind (eG hy).1 Z.F.ns (hu0.1 (O.kl _ (eG hy).1)) ?_);obtain⟨t0,rfl⟩:=r0.int_inv;refine H f m l g γ s k e p O h2 Z hl _ Ψ _ E (R.All.bind.mp hA) (hE.zN m) λv g1 γ1 u h1 tk1 hA1 e1 Z1 r1=>?_;have hl:=hl.ext e1;clear hA Z r0 hu0;obtain⟨j,r,rfl,hr,hA2⟩:=F6 hA1;obtain⟨t1,rfl⟩:=r1.int_inv;exact Nx (s:={s with heap:=h1,toks:=tk1}) ho hop hr λi' e=>aO.set (s:={s with heap:=h1,toks:=tk1+1}) Z1 hl O rfl hy (.int i' tk1) λh' m' Z' hl'=>hQ _ g1 γ1 .next h' _ m' hA2 e1 Z' (e▸hl')
  |_=>exact g9.stop
theorem F8{f':Fs}{e:ME}{p:Expr}{pos:Pos}(H:SE X n f'.e)(O:bB X f n)(h2:iN X.K X.C f.scope k e p=true)(Z:aO X f m γ g s.heap)(hl:X.Ls f γ m l):
  g9 X f ((f'.e l g e).bind λv g=>.ok (.ret v) g) (exec (.Return (some p) pos) f.env) γ s:=by
 intro Φ Ψ Q E hA hE hQ;refine wpAny_Return_some ?_;exact H f m l g γ s k e p O h2 Z hl _ Ψ _ E (R.All.bind.mp hA) (hE.zN m) λv g1 γ1 u h1 tk1 hA1 e1 Z1 r1=>hQ _ g1 γ1 (.ret u) h1 tk1 m hA1 e1 Z1 r1
theorem JV{f':Fs}{c:ME}{a b:List MS}{pc:Expr}{pa pb:List Stmt}{pos:Pos}(T:I3 X n f')(H:SS X n f'.s)(O:bB X f n)(h1:iN X.K X.C f.scope k c pc=true)(h2:BY (gv X.K X.C f.scope k) a pa=true)(h3:BY (gv X.K X.C f.scope k) b pb=true)(Z:aO X f m γ g s.heap)(hl:X.Ls f γ m l):
  g9 X f ((tst f' l g c).bind λt g=>match t with
  |true=>blk f' l g a
  |false=>blk f' l g b) (exec (.If pc pa pb pos) f.env) γ s:=by
 intro Φ Ψ Q E hA hE hQ;refine wpAny_If ?_;refine T f m l g γ s k c pc O h1 Z hl _ Ψ _ E (R.All.bind.mp hA) (hE.zN m) λt g1 γ1 t' hp1 tk1 hA1 e1 Z1 r1=>?_;subst r1;cases t' with
 |true=>exact lE H O (γ:=γ1) (s:={s with heap:=hp1,toks:=tk1}) h2 Z1 (hl.ext e1) Φ Ψ Q E hA1 (hE.at hp1 tk1) λx' g' γ' b' h' tk' m' p' e' Z' r'=>hQ x' g' γ' b' h' tk' m' p' (e1.trans e') Z' r'
 |false=>exact lE H O (γ:=γ1) (s:={s with heap:=hp1,toks:=tk1}) h3 Z1 (hl.ext e1) Φ Ψ Q E hA1 (hE.at hp1 tk1) λx' g' γ' b' h' tk' m' p' e' Z' r'=>hQ x' g' γ' b' h' tk' m' p' (e1.trans e') Z' r'
end
noncomputable def SW(X:Cx)(n:Nat)(fsn:Loc->G->MS->R Fl):Prop:=
 ∀(f:Fm)(m:Str->Option Value)(l:Loc)(g:G)(γ:Ga)(s:Shared)(k:Nat)(c:ME)(b:List MS)(pc:Expr)(pb:List Stmt),
  bB X f n->iN X.K X.C f.scope k c pc=true->BY (gv X.K X.C f.scope k) b pb=true->aO X f m γ g s.heap->X.Ls f γ m l->
  ∀(Φ:Fl->G->Prop)(Ψ:Prop)(Q:Flow->Shared->Prop)(E:Value->Shared->Prop),(fsn l g (.whl c b)).All Φ Ψ->lQ X f E Ψ s->
  (∀x g' γ' b h' tk m',Φ x g'->Ext γ γ'->aO X f m' γ' g' h'->BD X f m' γ' b x->Q b {s with heap:=h',toks:=tk})->WhlRest X.prog X.w f.A E f.env pc pb [] Q 0 s
section
variable{X:Cx}{f:Fm}{m:Str->Option Value}{γ:Ga}{g:G}{s:Shared}{n:Nat}{l:Loc}{k:Nat}
theorem BF{f':Fs}{c:ME}{b:List MS}{pc:Expr}{pb:List Stmt}(T:I3 X n f')(H:SS X n f'.s)(W:SW X n f'.s)(O:bB X f n)(h1:iN X.K X.C f.scope k c pc=true)(h2:BY (gv X.K X.C f.scope k) b pb=true)(Z:aO X f m γ g s.heap)(hl:X.Ls f γ m l)
  {Φ:Fl->G->Prop} {Ψ:Prop} {Q:Flow->Shared->Prop} {E:Value->Shared->Prop}
  (hA:((tst f' l g c).bind λt g=>match t with
  |false=>.ok (.next l) g
  |true=>(blk f' l g b).bind λx g=>match x with
   | .next l=>f'.s l g (.whl c b)
   | .cont l=>f'.s l g (.whl c b)
   | .ret v=>.ok (.ret v) g).All Φ Ψ) (hE:lQ X f E Ψ s)
  (hQ:∀x g' γ' b h' tk m',Φ x g'->Ext γ γ'->aO X f m' γ' g' h'->BD X f m' γ' b x->Q b {s with heap:=h',toks:=tk}):WhlRest X.prog X.w f.A E f.env pc pb [] Q 0 s:=by
 refine whl_turn (k:=0) hE.MU ?_;refine T f m l g γ s k c pc O h1 Z hl _ Ψ _ E (R.All.bind.mp hA) (hE.zN m) λt g1 γ1 t' hp1 tk1 hA1 e1 Z1 r1=>?_;subst r1;cases t' with
 |false=>exact WhlIf.no rfl (wpAny_execs_nil (hQ _ g1 γ1 .next hp1 tk1 m hA1 e1 Z1 (hl.ext e1)))
 |true=>
  refine WhlIf.yes rfl ?_;refine lE H O (γ:=γ1) (s:={s with heap:=hp1,toks:=tk1}) h2 Z1 (hl.ext e1) _ Ψ _ E (R.All.bind.mp hA1) (hE.at hp1 tk1) λx g2 γ2 fl h2' tk2 m2 hA2 e2 Z2 r2=>?_
  have hQ:=gA.at hQ (e1.trans e2) h2' tk2;clear hA Z hl hA1 Z1;cases x with
  |next l2=>obtain⟨rfl,r2⟩:=r2.kF;exact W f m2 l2 g2 γ2 {s with heap:=h2',toks:=tk2} k c b pc pb O h1 h2 Z2 r2 Φ Ψ Q E hA2 (hE.at h2' tk2) hQ
  |cont l2=>obtain⟨rfl,r2⟩:=r2.mY;exact W f m2 l2 g2 γ2 {s with heap:=h2',toks:=tk2} k c b pc pb O h1 h2 Z2 r2 Φ Ψ Q E hA2 (hE.at h2' tk2) hQ
  |ret v=>obtain⟨u,rfl,r2⟩:=r2.mZ;exact hQ (.ret v) g2 γ2 (.ret u) h2' tk2 m2 hA2 (Ext.refl _) Z2 r2
noncomputable def vU(o:Obj):Prop:=¬Nc o/\∀v,o.data≠.cell v
noncomputable def Ga.drop(γ:Ga)(I:Addr):Ga:={γ with news:=γ.news.filter λp=>p.1 != I}
theorem jD{γ:Ga}{I:Addr}{p:Addr×Obj}:p∈(γ.drop I).news↔p∈γ.news/\p.1≠I:=by show p∈γ.news.filter _↔_;rw[List.mem_filter];simp
structure UM(γ:Ga)(I:Addr)(oI:Obj):Prop where
 mem:(I,oI)∈γ.news
 nm:I∉γ.mut
 nd:vU oI
 un:(γ.news.map (·.1)).Nodup
theorem UM.Mk{I:Addr}{oI:Obj}(L:UM γ I oI){a:Addr}{o:Obj}(h:(a,o)∈γ.news)(ho:o≠oI):(a,o)∈(γ.drop I).news:=
 jD.mpr ⟨h,λe=>ho (CD L.un (show(I,o)∈γ.news from(show a=I from e)▸h) L.mem)⟩
theorem UM.mp{I:Addr}{oI:Obj}(L:UM γ I oI):Mp γ (γ.drop I):=⟨λa o n h k=>⟨L.Mk h λe=>L.nd.1 (e▸n),k⟩,λ_ _ h=>h,λ_ h=>h⟩
theorem Ls.drop{I:Addr}{oI:Obj}(L:UM γ I oI)(h:X.Ls f γ m l):X.Ls f (γ.drop I) m l:=λx v q=>let ⟨u,a,b⟩:=h x v q;⟨u,⟨a.1,λc hc=>let ⟨o,h1,h2,h3⟩:=a.2 c hc;⟨o,L.Mk h1 λe=>L.nd.2 _ (e▸h3),h2,h3⟩⟩,b.map L.mp⟩
theorem qN{I:Addr}(h:I∉γ.mut){a:Addr}{o:Obj}(hm:(a,o)∈γ.news)(ha:a∈γ.mut):(a,o)∈(γ.drop I).news:=
 jD.mpr ⟨hm,λe=>h ((show a=I from e)▸ha)⟩
theorem gq.drop{I:Addr}{oI:Obj}(L:UM γ I oI)(H:X.gq γ g):X.gq (γ.drop I) g where
 nd:=List.Sublist.nodup (List.Sublist.map _ (List.filter_sublist)) H.nd
 md:=H.md
 nU:=λb h=>by obtain⟨p,hp,e⟩:=List.mem_map.mp (H.nU b h);exact List.mem_map.mpr ⟨p,jD.mpr ⟨hp,λq=>L.nm (by rw[<- q,e];exact h)⟩,e⟩
 cell:=λi c h=>(H.cell i c h).map L.mp (λa o r hm=>qN L.nm hm (H.lu r)) id (Nat.le_refl _)
 ju:=λb h=>let ⟨its,n,hm,z⟩:=H.ju b h;⟨its,n,qN L.nm hm (vE h),z⟩
 lf:=H.lf
 sL:=H.sL
 tO:=λi o h=>let ⟨b,r,hm⟩:=H.tO i o h;⟨b,r,qN L.nm hm (H.lu r)⟩
theorem gq.BG(H:X.gq γ g){a:Addr}{o:Obj}(hk:a∉γ.news.map (·.1)):X.gq (γ.push a o) g where
 nd:=List.nodup_cons.mpr ⟨hk,H.nd⟩
 md:=H.md
 nU:=λb h=>List.mem_cons_of_mem _ (H.nU b h)
 cell:=λi c h=>(H.cell i c h).ext (Ext.push H) (λ_ _ _ m=>.tail _ m) id (Nat.le_refl _)
 ju:=λb h=>let ⟨its,n,m,z⟩:=H.ju b h;⟨its,n,.tail _ m,z⟩
 lf:=H.lf
 sL:=H.sL
 tO:=λi o h=>let ⟨b,r,m⟩:=H.tO i o h;⟨b,r,.tail _ m⟩
theorem At.BG(H:X.gq γ g){a:Addr}{o:Obj}(hk:a∉γ.news.map (·.1)):X.At (γ.push a o) a o:=
 .inl ⟨.head _,λh=>hk (H.nU a h)⟩
theorem BH{lk:List (Nat×Obj)}:Mp γ {γ with lk}:=⟨λ_ _ _ h k=>⟨h,k⟩,λ_ _ h=>h,λ_ h=>h⟩
theorem RV.lk{lk:List (Nat×Obj)}{v:Value}{x:V}(h:X.RV γ v x):X.RV {γ with lk} v x:=h.map BH
theorem cH.lk{lk:List (Nat×Obj)}{v:List Value}{x:List V}(h:X.cH γ v x):X.cH {γ with lk} v x:=h.map BH
theorem gR.lk{lk:List (Nat×Obj)}{v:List (Str×Value)}{x:List (S×V)}(h:X.gR γ v x):X.gR {γ with lk} v x:=h.map BH
theorem Ls.lk{lk:List (Nat×Obj)}(h:X.Ls f γ m l):X.Ls f {γ with lk} m l:=λx v q=>let ⟨u,a,b⟩:=h x v q;⟨u,⟨a.1,a.2⟩,RV.lk b⟩
theorem gq.lk{lk:List (Nat×Obj)}{lg:List Nat}(H:X.gq γ g)(h1:lk.map (·.1)=lg)(h2:∀i o,(i,o)∈lk->∃a,γ.rho.lookup i=some a/\(a,o)∈γ.news):X.gq {γ with lk} ⟨g.hp,g.left,lg⟩where
 nd:=H.nd
 md:=H.md
 nU:=H.nU
 cell:=λi c h=>(H.cell i c h).map BH (λ_ _ _ hm=>hm) id (Nat.le_refl _)
 ju:=H.ju
 lf:=H.lf
 sL:=h1
 tO:=h2
end
section
variable{X:Cx}{f:Fm}{m:Str->Option Value}{γ:Ga}{g:G}{s:Shared}{n:Nat}{l:Loc}{k:Nat}
noncomputable def yp(f:Fm)(γ:Ga)(b:Addr):Prop:=(∃o,f.h₀.get? b=some o)\/∃o,(b,o)∈γ.news/\(b∉γ.mut\/∃i,(i,o)∈γ.lk/\γ.rho.lookup i=some b)
theorem BI{γ':Ga}{g':G}{b:Addr}{o:Obj}(h:b∉γ.mut\/∃i,(i,o)∈γ.lk/\γ.rho.lookup i=some b)(hm:(b,o)∈γ.news)(e:Ext γ γ')(H:X.gq γ' g'):(b,o)∈γ'.news:=by
 rcases h with h|⟨i,h1,h2⟩
 ·exact(e.news _ _ hm h).1
 ·rw[<- e.lk]at h1;obtain⟨a,r,hm'⟩:=H.tO i o h1;rw[e.rho _ _ h2]at r;cases r;exact hm'
theorem F9{γ':Ga}{I:Addr}(e:Ext γ γ')(hI:I∉γ.news.map (·.1)):Ext γ (γ'.drop I):=
 ⟨λa o h k=>⟨jD.mpr ⟨(e.news a o h k).1,λz=>hI (List.mem_map.mpr ⟨_,h,z⟩)⟩,(e.news a o h k).2⟩,e.rho,e.jun,e.lk⟩
noncomputable def qO(X:Cx)(f:Fm)(target:Expr)(step:Loc->V->Option Loc):Prop:=∀(γ':Ga)(g':G)(s':Shared)(m':Str->Option Value)(l' l'':Loc)(v:Value)(x:V),step l' x=some l''->X.RV γ' v x->aO X f m' γ' g' s'.heap->X.Ls f γ' m' l'->
   ∀(Q:Unit->Shared->Prop)(E:Value->Shared->Prop),(∀h'' tk m'',aO X f m'' γ' g' h''->X.Ls f γ' m'' l''->Q () {s' with heap:=h'',toks:=tk})->wpAny X.M f.A (assign target f.env v) Q E s'
inductive Po(X:Cx)(f:Fm)(γ:Ga)(L:Loc->G->R Fl)(Φ:Fl->G->Prop)(Ψ:Prop)(m₁:Str->Option Value)(news₁:List (Addr×Obj)):Prop
 |mk (γ':Ga) (g':G) (l':Loc) (e:Ext γ γ') (G':X.gq γ' g') (hn:news₁=γ'.news) (hl:X.Ls f γ' m₁ l') (hA:(L l' g').All Φ Ψ)
theorem yq{L:Loc->G->R Fl}{Φ:Fl->G->Prop}{Ψ:Prop}{γ3 γ':Ga}{g3:G}{l3:Loc}{I:Addr}{oI:Obj}{own:List (Addr×Obj)}{fp:List Addr}{h₁ h3:Heap}{m3:Str->Option Value}{g':G}{tk₁ tk3:Nat}
  (hI:I∉γ.news.map (·.1)) (hfp:∀b∈fp,b=I\/yp f γ b) (hoI:h₁.get? I=some oI) (hown:∀p∈own,p.1∈fp) (hget:∀p∈own,h₁.get? p.1=some p.2) (N₁:News f.h₀ f.L h₁ (own++γ'.news)) (e:Ext γ γ') (G':X.gq γ' g') (eA:Ext γ γ3) (hLt:UM γ3 I oI)
  (Z3:aO X f m3 γ3 g3 h3) (hl3:X.Ls f γ3 m3 l3) (hA:(L l3 g3).All Φ Ψ):LoopStepU f.h₀ f.env.locals [I] own (Po X f γ L Φ Ψ) {s with heap:=h₁,toks:=tk₁} .next {s with heap:=h3,toks:=tk3}:=by
 refine LoopStepU.intro (news₂:=(γ3.drop I).news) Z3.F (λp hp=>?_) (λp hp hm=>(jD.mp hp).2 (List.mem_singleton.mp hm)) ⟨γ3.drop I,g3,l3,F9 eA hI,gq.drop hLt Z3.gk,rfl,Ls.drop hLt hl3,hA⟩;rcases List.mem_append.mp hp with hp|hp
 ·obtain⟨a,o⟩:=p;have hgo:h₁.get? a=some o:=hget _ hp;have hno:f.h₀.get? a=none:=(N₁ _ (List.mem_append_left _ hp)).2.2;rcases hfp a (hown _ hp)with rfl|⟨o',ho'⟩|⟨o',hm',hs'⟩
  ·obtain rfl:=Option.some.inj (hoI.symm.trans hgo);exact Z3.N _ hLt.mem
  ·exact nomatch ho'.symm.trans hno
  ·obtain rfl:=Option.some.inj (hgo.symm.trans (N₁ _ (List.mem_append_right _ (BI hs' hm' e G'))).1);exact Z3.N _ (BI hs' hm' eA Z3.gk)
 ·exact Z3.N _ (jD.mp hp).1
theorem De{f':Fs}{step:Loc->V->Option Loc}{b:List MS}{l':Loc}{g':G}{x:V}{vs:List V}{Φ:Fl->G->Prop}{Ψ:Prop}(h:(loop f' step b l' g' (x::vs)).All Φ Ψ):∃l'',step l' x=some l''/\(blk f' l'' g' b).All (λy g=>(match y with
  | .next l=>loop f' step b l g vs
  | .cont l=>loop f' step b l g vs
  | .ret v=>.ok (.ret v) g:R Fl).All Φ Ψ) Ψ:=by
 have h:(match step l' x with
   |none=>R.st
   |some l=>(blk f' l g' b).bind λy g=>match y with
    | .next l=>loop f' step b l g vs
    | .cont l=>loop f' step b l g vs
    | .ret v=>.ok (.ret v) g).All Φ Ψ:=h
 cases hs:step l' x with
 |none=>rw[hs]at h;exact h.elim
 |some l''=>rw[hs]at h;exact⟨l'',rfl,R.All.bind.mp h⟩
theorem U5{vs:List V}{i:Nat}{x:V}(hx:vs[i]?=some x):vs.drop i=x::vs.drop (i+1):=by obtain⟨hlt,hx⟩:=List.getElem?_eq_some_iff.mp hx;rw[List.drop_eq_getElem_cons hlt,hx]
theorem yr{f':Fs}{target:Expr}{b:List MS}{pb:List Stmt}{step:Loc->V->Option Loc}{I:Addr}{fp:List Addr}{N:Nat}{P Md:Nat->Value->Heap->Prop}{St:Nat->Heap->Prop}{vs:List V}{hp:Heap}{tk:Nat}
  (H:SS X n f'.s) (O:bB X f n) (hb:BY (gv X.K X.C f.scope k) b pb=true)
  (W:KTurns X.prog X.w f.A target I fp [I] N P Md St) (hN:N=vs.length) (hI:I∉γ.news.map (·.1)) (hI0:f.h₀.get? I=none) (hL:f.L∉fp)
  (hiter:∀i h,St i h->∃oI,h.get? I=some oI/\vU oI) (hfp:∀b∈fp,b=I\/yp f γ b)
  (hval:∀i v h γ',i < N->Ext γ γ'->P i v h->∃x,vs[i]?=some x/\X.RV γ' v x) (hasg:qO X f target step)
  (Z:aO X f m γ g hp) (hl:X.Ls f γ m l) (hst:St 0 hp)
  {Φ:Fl->G->Prop} {Ψ:Prop} {Q:Flow->Shared->Prop} {E:Value->Shared->Prop} (hA:(loop f' step b l g vs).All Φ Ψ) (hE:lQ X f E Ψ s) (hQ:gA X f Φ Q γ s):
  TurnsAt X.prog X.w f.A f.h₀ f.env target pb Q E (.ref I) {s with heap:=hp,toks:=tk}:=by
 refine⟨I,fp,[I],N,P,Md,St,m,γ.news,λi=>Po X f γ (λl' g'=>loop f' step b l' g' (vs.drop i)) Φ Ψ,rfl,W,hL,λb hb=>by rw[List.mem_singleton.mp hb];exact hI0,
  λp hp hm=>hI (List.mem_map.mpr ⟨p,hp,List.mem_singleton.mp hm⟩),hst,Z.F,Z.N,⟨γ,g,l,Ext.refl γ,Z.gk,rfl,hl,by rw[List.drop_zero];exact hA⟩,?_,?_⟩
 ·clear hA hl hst Z
  rintro i v m₁ news₁ h₁ tk₁ own hi hP ⟨γ',g',l',e,G',rfl,hl',hA'⟩ hoff hown hget hall hst₁ F₁ N₁
  obtain⟨x,hx,rx⟩:=hval i v h₁ γ' hi e hP;obtain⟨oI,hoI,hnd⟩:=hiter _ _ hst₁;have hIown:(I,oI)∈own:=hall I (W.sub I (List.mem_singleton.mpr rfl)) hI0 oI hoI;have hIk:I∉γ'.news.map (·.1):=λh=>by obtain⟨p,hp,q⟩:=List.mem_map.mp h;exact hoff p hp (List.mem_singleton.mpr q)
  rw[U5 hx]at hA';obtain⟨l'',hs,hA2⟩:=De hA';have N1:News f.h₀ f.L h₁ ((I,oI)::γ'.news):=λp hp=>(List.mem_cons.mp hp).elim (λe=>e▸N₁ _ (List.mem_append_left _ hIown)) λhp=>N₁ _ (List.mem_append_right _ hp);have e1:Ext γ' (γ'.push I oI):=Ext.push G';refine hasg (γ'.push I oI) g' {s with heap:=h₁,toks:=tk₁} m₁ l' l'' v x hs (rx.ext e1) ⟨F₁,N1,gq.BG G' hIk⟩ (hl'.ext e1) _ _ λh2 tk2 m2 Z2 hl2=>?_
  refine lE H O (γ:=γ'.push I oI) (s:={s with heap:=h2,toks:=tk2}) hb Z2 hl2 _ Ψ _ E hA2 (hE.at h2 tk2) λy g3 γ3 fl h3 tk3 m3 hA3 e3 Z3 r3=>?_
  have eA:Ext γ γ3:=(e.trans e1).trans e3;have hLt:UM γ3 I oI:=have q:=e3.news I oI (.head _) (λh=>hIk (G'.nU I h));⟨q.1,q.2,hnd,Z3.gk.nd⟩;clear hA' hA2 hl2 Z2 rx hl' N1;cases y with
  |next l3=>obtain⟨rfl,r3⟩:=r3.kF;exact .next (yq hI hfp hoI hown hget N₁ e G' eA hLt Z3 r3 hA3)
  |cont l3=>obtain⟨rfl,r3⟩:=r3.mY;exact .cont (yq hI hfp hoI hown hget N₁ e G' eA hLt Z3 r3 hA3)
  |ret w=>obtain⟨u,rfl,r3⟩:=r3.mZ;exact .ret (hQ (.ret w) g3 γ3 (.ret u) h3 tk3 m3 hA3 eA Z3 r3)
 ·rintro h' tk' m' news' F' N' hoff ⟨γ',g',l',e,G',rfl,hl',hA'⟩
  rw[List.drop_eq_nil_of_le (Nat.le_of_eq hN.symm)]at hA';exact hQ (.next l') g' γ' .next h' tk' m' hA' e ⟨F',N',G'⟩ hl'
theorem BJ{o:Obj}{T:String}(h:o.cls=.type T)(h1:T≠"tuple")(h2:T≠"list")(h3:T≠"dict")(h0:∀v,o.data≠.cell v):vU o:=by
 refine⟨λq=>?_,h0⟩;rcases q with⟨C,q⟩|q|q|q
 ·exact nomatch h.symm.trans q
 ·exact h1 (Value.type.inj (h.symm.trans q))
 ·exact h2 (Value.type.inj (h.symm.trans q))
 ·exact h3 (Value.type.inj (h.symm.trans q))
theorem gR.at{kvs:List (Str×Value)}{ll:List (S×V)}(h:X.gR γ kvs ll):∀{i:Nat}{q:Str}{y:Value},kvs[i]?=some (q,y)->∃a x,ll[i]?=some (a,x)/\q=toS a/\sok a=true:=
 h.ind (P:=λkvs ll=>∀{i:Nat}{q:Str}{y:Value},kvs[i]?=some (q,y)->∃a x,ll[i]?=some (a,x)/\q=toS a/\sok a=true) (λh=>nomatch h) @λk u x us l hk hv hr ih i q y h=>match i,h with
  |0,h=>⟨k,x,rfl,(congrArg (·.1) (Option.some.inj (h:some (toS k,u)=some (q,y)))).symm,hk⟩
  |i+1,h=>ih h
theorem cH.get'{us:List Value}{vs:List V}(r:X.cH γ us vs):∀{i:Nat}{u:Value},us[i]?=some u->∃x,vs[i]?=some x/\X.RV γ u x:=
 r.ind (P:=λus vs=>∀{i:Nat}{u:Value},us[i]?=some u->∃x,vs[i]?=some x/\X.RV γ u x) (λh=>nomatch h) @λu x us l hv hr ih i w h=>match i,h with
  |0,h=>⟨x,rfl,Option.some.inj (h:some u=some w)▸hv⟩
  |i+1,h=>ih h
theorem vV{f':Fs}{target:Expr}{b:List MS}{pb:List Stmt}{step:Loc->V->Option Loc}{d:Addr}{o:Obj}{N:Nat}{P Md:Nat->Value->Heap->Prop}{St:Nat->Heap->Prop}{vs:List V}{tk:Nat}
  (H:SS X n f'.s) (O:bB X f n) (hb:BY (gv X.K X.C f.scope k) b pb=true) (W:KTurns X.prog X.w f.A target s.heap.objs.size [s.heap.objs.size,d] [s.heap.objs.size] N P Md St) (hN:N=vs.length)
  (hiter:∀i h,St i h->∃oI,h.get? s.heap.objs.size=some oI/\vU oI) (hval:∀i v h γ',i < N->Ext γ γ'->P i v h->∃x,vs[i]?=some x/\X.RV γ' v x) (hasg:qO X f target step)
  (Z:aO X f m γ g s.heap) (hl:X.Ls f γ m l) (st:yp f γ d) (hdL:d≠f.L) (ho:o.isFreed=false) (hst:St 0 (s.heap.push o))
  {Φ:Fl->G->Prop} {Ψ:Prop} {Q:Flow->Shared->Prop} {E:Value->Shared->Prop} (hA:(loop f' step b l g vs).All Φ Ψ) (hE:lQ X f E Ψ s) (hQ:gA X f Φ Q γ s):
  TurnsAt X.prog X.w f.A f.h₀ f.env target pb Q E (.ref s.heap.objs.size) {s with heap:=s.heap.push o,toks:=tk}:=by
 refine yr (tk:=tk) H O hb W hN (λh=>?_) (next_is_new Z.F) (λhm=>?_) hiter (λb hb'=>?_) hval hasg ⟨Z.F.push _,λp hp=>⟨Heap.get?_push_of_some _ (Z.N p hp).1,(Z.N p hp).2⟩,Z.gk⟩ hl hst hA hE hQ
 ·obtain⟨p,hp,q⟩:=List.mem_map.mp h;exact absurd (Heap.lt_size (Z.N p hp).1) (by rw[q];exact Nat.lt_irrefl _)
 ·exact(List.mem_cons.mp hm).elim (Nat.ne_of_lt Z.F.ns.lt) λhm=>hdL (List.mem_singleton.mp hm).symm
 ·exact(List.mem_cons.mp hb').imp id λhm=>by rw[List.mem_singleton.mp hm];exact st
theorem UY{us:List Value}{vs:List V}(rs:X.cH γ us vs)(i:Nat)(v:Value)(h:Heap)(γ':Ga)(hi:i < us.toArray.size)(e:Ext γ γ')(hP:us.toArray[i]?=some v):∃x,vs[i]?=some x/\X.RV γ' v x:=
 have⟨x,hx,r⟩:=rs.get' (List.getElem?_toArray.symm.trans hP)
 ⟨x,hx,r.ext e⟩
theorem qP{f':Fs}{target:Expr}{b:List MS}{pb:List Stmt}{step:Loc->V->Option Loc}{d:Addr}{us:List Value}{vs:List V}(H:SS X n f'.s)(O:bB X f n)(hb:BY (gv X.K X.C f.scope k) b pb=true)(hasg:qO X f target step)
  (Z:aO X f m γ g s.heap) (hl:X.Ls f γ m l) (li:s.heap.IsList d (List.toArray us)) (rs:X.cH γ us vs) (st:yp f γ d) (hdL:d≠f.L)
  {Φ:Fl->G->Prop} {Ψ:Prop} {Q:Flow->Shared->Prop} {E:Value->Shared->Prop} (hA:(loop f' step b l g vs).All Φ Ψ) (hE:lQ X f E Ψ s) (hQ:gA X f Φ Q γ s):
  wpAny X.M f.A (pyIter (.ref d)) (λit s₂=>TurnsAt X.prog X.w f.A f.h₀ f.env target pb Q E it s₂) E s:=by
 have hlt:d < s.heap.objs.size:=have⟨_,e,_⟩:=li;Heap.lt_size e;refine wpAny_pyIter_list li (vV H O hb (KTurns.ofWalks (Walks.list O.hh s.heap.objs.size d (Nat.ne_of_lt hlt) us.toArray) λi v s Q E st q=>letGo_listiter st.1 q) (List.size_toArray.trans rs.length) (λi h st'=>?_) (UY rs) hasg Z hl st hdL rfl ⟨⟨_,Heap.get?_push_size _ rfl,rfl,rfl⟩,li.at λo e=>Heap.get?_push_of_some _ e⟩ hA hE hQ);obtain⟨o,ho,hc,hdt⟩:=st'.1;exact⟨o,ho,BJ hc (by decide) (by decide) (by decide) (λv q=>nomatch hdt.symm.trans q)⟩
theorem Df{f':Fs}{target:Expr}{b:List MS}{pb:List Stmt}{step:Loc->V->Option Loc}{d:Addr}{us:List Value}{vs:List V}(H:SS X n f'.s)(O:bB X f n)(hb:BY (gv X.K X.C f.scope k) b pb=true)(hasg:qO X f target step)
  (Z:aO X f m γ g s.heap) (hl:X.Ls f γ m l) (ht:IsTup s.heap d (List.toArray us)) (rs:X.cH γ us vs) (st:yp f γ d) (hdL:d≠f.L)
  {Φ:Fl->G->Prop} {Ψ:Prop} {Q:Flow->Shared->Prop} {E:Value->Shared->Prop} (hA:(loop f' step b l g vs).All Φ Ψ) (hE:lQ X f E Ψ s) (hQ:gA X f Φ Q γ s):
  wpAny X.M f.A (pyIter (.ref d)) (λit s₂=>TurnsAt X.prog X.w f.A f.h₀ f.env target pb Q E it s₂) E s:=by
 have hlt:d < s.heap.objs.size:=have⟨_,e,_⟩:=ht;Heap.lt_size e;refine wpAny_pyIter_tuple ht (vV H O hb (KTurns.ofWalks (Walks.tuple O.hh s.heap.objs.size d (Nat.ne_of_lt hlt) us.toArray) λi v s Q E st q=>letGo_tupleiter st.1 q) (List.size_toArray.trans rs.length) (λi h st'=>?_) (UY rs) hasg Z hl st hdL rfl ⟨⟨_,Heap.get?_push_size _ rfl,rfl,rfl⟩,ht.keeps λb o e=>Heap.get?_push_of_some _ e⟩ hA hE hQ);obtain⟨o,ho,hc,hdt⟩:=st'.1;exact⟨o,ho,BJ hc (by decide) (by decide) (by decide) (λv q=>nomatch hdt.symm.trans q)⟩
theorem qQ(KO:fY X){f':Fs}{target:Expr}{b:List MS}{pb:List Stmt}{step:Loc->V->Option Loc}{d:Addr}{o:Obj}{kvs:List (Str×Value)}{ll:List (S×V)}(H:SS X n f'.s)(O:bB X f n)(hb:BY (gv X.K X.C f.scope k) b pb=true)(hasg:qO X f target step)
  (Z:aO X f m γ g s.heap) (hl:X.Ls f γ m l) (hm:(d,o)∈γ.news) (hd:o.IsDictOf (strKind X.prog X.w) kvs) (hr:X.gR γ kvs ll) (st:yp f γ d)
  {Φ:Fl->G->Prop} {Ψ:Prop} {Q:Flow->Shared->Prop} {E:Value->Shared->Prop} (hA:(loop f' step b l g (ll.map λp=>V.str p.1)).All Φ Ψ) (hE:lQ X f E Ψ s) (hQ:gA X f Φ Q γ s):
  wpAny X.M f.A (pyIter (.ref d)) (λit s₂=>TurnsAt X.prog X.w f.A f.h₀ f.env target pb Q E it s₂) E s:=by
 obtain⟨ep,hat⟩:=(show s.heap.DictOf (strKind X.prog X.w) d kvs from Heap.dictOf_iff.mpr ⟨o,Z.N.get hm,hd⟩).dictAt;refine wpAny_pyIter_dict (jg KO Z O hm) hat (vV H O hb (KTurns.ofWalks (Walks.dictKeys (knd:=strKind X.prog X.w) O.hh s.heap.objs.size d (Nat.ne_of_lt hat.lt_size) kvs ep) λi v s Q E st q=>letGo_keyiter st.1 q) ((lD hr).trans (List.length_map _).symm) (λi h st'=>?_) ?_ hasg Z hl st (Z.N _ hm).2.1 rfl ⟨⟨_,Heap.get?_push_size _ rfl,rfl,rfl⟩,hat.push _⟩ hA hE hQ)
 ·obtain⟨o,ho,hc,hdt⟩:=st'.1;exact⟨o,ho,BJ hc (by decide) (by decide) (by decide) (λv q=>nomatch hdt.symm.trans q)⟩
 ·rintro i v' h γ'' _ e ⟨q,y,h1,h2⟩
  obtain⟨a,x,h3,rfl,h5⟩:=hr.at h1;obtain⟨t,rfl⟩:=Value.isStrOf_shape h2;exact⟨.str a,by rw[List.getElem?_map,h3];rfl,.str a t h5⟩
theorem vW(Z:aO X f m γ g s.heap)(O:bB X f n){a:Addr}{o:Obj}(h:X.At γ a o):yp f γ a/\a≠f.L:=by
 rcases h with⟨h1,h2⟩|h1
 ·exact⟨.inr ⟨o,h1,.inl h2⟩,(Z.N _ h1).2.1⟩
 ·have q:=O.X₀ _ _ h1;exact⟨.inl ⟨o,q⟩,Nat.ne_of_lt (Nat.lt_of_lt_of_le (Heap.lt_size q) Z.F.above)⟩
theorem BD.lk{b:Flow}{x:Fl}{lk:List (Nat×Obj)}(h:BD X f m γ b x):BD X f m {γ with lk} b x:=by
 cases x with
 |next l=>obtain⟨rfl,h⟩:=h.kF;exact Ls.lk h
 |cont l=>obtain⟨rfl,h⟩:=h.mY;exact Ls.lk h
 |ret v=>obtain⟨u,rfl,h⟩:=h.mZ;exact RV.lk h
theorem BK(Z:aO X f m γ g s.heap){i a:Nat}{o:Obj}(hr:γ.rho.lookup i=some a)(hm:(a,o)∈γ.news){Φ:Fl->G->Prop}{Q:Flow->Shared->Prop}(hQ:gA X f Φ Q γ s):
  aO X f m {γ with lk:=(i,o)::γ.lk} ⟨g.hp,g.left,i::g.lk⟩ s.heap/\yp f {γ with lk:=(i,o)::γ.lk} a/\gA X f (λx h=>Φ x ⟨h.hp,h.left,g.lk⟩) Q {γ with lk:=(i,o)::γ.lk} s:=by
 refine⟨⟨Z.F,Z.N,gq.lk Z.gk (congrArg (i::·) Z.gk.sL) λj oj hj=>?_⟩,.inr ⟨o,hm,.inr ⟨i,.head _,hr⟩⟩,λx g' γ'' b' h' tk m' hp e Z'' r''=>?_⟩
 ·rcases List.mem_cons.mp hj with q|hj
  ·obtain⟨rfl,rfl⟩:=Prod.mk.inj q;exact⟨a,hr,hm⟩
  ·exact Z.gk.tO j oj hj
 ·exact hQ x _ {γ'' with lk:=γ.lk} b' h' tk m' hp ⟨e.news,e.rho,e.jun,rfl⟩ ⟨Z''.F,Z''.N,gq.lk Z''.gk Z.gk.sL λj oj hj=>Z''.gk.tO j oj (by rw[e.lk];exact .tail _ hj)⟩ r''.lk
theorem BL(KO:fY X){f':Fs}{target:Expr}{b:List MS}{pb:List Stmt}{step:Loc->V->Option Loc}{u:Value}{v:V}{vs:List V}(H:SS X n f'.s)(O:bB X f n)(hb:BY (gv X.K X.C f.scope k) b pb=true)(hasg:qO X f target step)
  (Z:aO X f m γ g s.heap) (hl:X.Ls f γ m l) (r:X.RV γ u v) (hv:gz g v=some vs)
  {Φ:Fl->G->Prop} {Ψ:Prop} {Q:Flow->Shared->Prop} {E:Value->Shared->Prop} (hA:(TA g v λg=>loop f' step b l g vs).All Φ Ψ) (hE:lQ X f E Ψ s) (hQ:gA X f Φ Q γ s):
  wpAny X.M f.A (pyIter u) (λit s₂=>TurnsAt X.prog X.w f.A f.h₀ f.env target pb Q E it s₂) E s:=by
 replace hA:=R.All.bind.mp hA;have plainQ:gA X f (λx h=>Φ x ⟨h.hp,h.left,g.lk⟩) Q γ s:=λx g' γ' b h' tk m' p e Z' r'=>by
  have q:g'.lk=g.lk:=by rw[<- Z'.gk.sL,e.lk,Z.gk.sL]
  rw[<- q]at p;exact hQ x g' γ' b h' tk m' p e Z' r'
 cases v with
 |lst l'=>obtain rfl:=Option.some.inj hv;obtain⟨_,_,_,rfl,ha,hr,hz⟩:=r.lst_inv;have st:=vW Z O ha;exact qP H O hb hasg Z hl (lB Z O ha) hr st.1 st.2 hA hE plainQ
 |tup l'=>obtain rfl:=Option.some.inj hv;obtain⟨_,_,_,rfl,ha,hr,hz⟩:=r.fB;have st:=vW Z O ha;exact Df H O hb hasg Z hl (iK Z O ha) hr st.1 st.2 hA hE plainQ
 |dct l'=>obtain rfl:=Option.some.inj hv;obtain⟨_,_,_,rfl,hm,hnm,hd,hr,hz⟩:=r.lz;exact qQ KO H O hb hasg Z hl hm hd hr (vW Z O (.inl ⟨hm,hnm⟩)).1 hA hE plainQ
 |ref i=>
  clear plainQ;obtain⟨a,rfl,hr⟩:=r.fC;have hv:(match g.get i with| .list l=>some l| .dict _ ord=>some (ord.map V.str)|_=>none)=some vs:=hv
  cases hg:g.get i with
  |list l'=>rw[hg]at hv;obtain rfl:=Option.some.inj hv;obtain⟨d,its,nn,r,hm,hrs,hz⟩:=dG Z hg;obtain rfl:=Option.some.inj (hr.symm.trans r);obtain⟨Z',st,hQ'⟩:=BK Z hr hm hQ;exact qP (γ:={γ with lk:=_}) H O hb hasg Z' (Ls.lk hl) ⟨_,Z.N.get hm,rfl,nn,rfl⟩ (cH.lk hrs) st (Z.N _ hm).2.1 hA hE hQ'
  |dict tab ord=>rw[hg]at hv;obtain rfl:=Option.some.inj hv;obtain⟨d,o,kvs,ll,r,hm,hd,hp,rfl,ht⟩:=cU Z hg;obtain rfl:=Option.some.inj (hr.symm.trans r);obtain⟨Z',st,hQ'⟩:=BK Z hr hm hQ;rw[List.map_map]at hA;exact qQ (γ:={γ with lk:=_}) KO H O hb hasg Z' (Ls.lk hl) hm hd (gR.lk hp) st hA hE hQ'
  |_=>rw[hg]at hv;exact aL hv
 |_=>exact aL hv
end
section
variable{X:Cx}{f:Fm}{m:Str->Option Value}{γ:Ga}{g:G}{s:Shared}{n:Nat}{l:Loc}{k:Nat}
theorem Gb{p:Expr}{env:Env}(h:qK p=true):∀x,foldedSetIterable p env x=pure x:=λx=>by cases p<;>first|rfl|exact ff h
theorem yt(O:bB X f n){x:Nat}{y:Str}{np:Pos}(hx:nm x=y)(hy:eu f.scope y=true):qO X f (.Name y np) λl v=>some (bY l x v):=λγ' g' s' m' l' l'' v' x' hst hr Z' hl' Q' E' hQ'=>wpAny_assign_Name (aO.set Z' hl' O hx hy hr λh'' m'' Z'' hl''=>hQ' h'' _ m'' Z'' (Option.some.inj hst▸hl''))
theorem Dg(KO:fY X){f':Fs}{x:Nat}{y:Str}{it:ME}{b:List MS}{np:Pos}{pit:Expr}{pb:List Stmt}{pos:Pos}(HE:SE X n f'.e)(H:SS X n f'.s)(O:bB X f n)(hx:nm x=y)(hy:eu f.scope y=true)(hs:qK pit=true)(h1:iN X.K X.C f.scope k it pit=true)(hb:BY (gv X.K X.C f.scope k) b pb=true)(Z:aO X f m γ g s.heap)(hl:X.Ls f γ m l):
  g9 X f ((f'.e l g it).bind λv g=>match gz g v with
  |some vs=>TA g v λg=>loop f' (λl v=>some (bY l x v)) b l g vs
  |none=>.st) (exec (.For (.Name y np) pit pb [] pos) f.env) γ s:=by
 intro Φ Ψ Q E hA hE hQ;refine For_turns Z.F ?_ (Gb hs) hE.MU;refine HE f m l g γ s k it pit O h1 Z hl _ Ψ _ E (R.All.bind.mp hA) (hE.zN m) λv g1 γ1 u hp1 tk1 hA1 e1 Z1 r1=>?_;cases hv:gz g1 v with
 |none=>rw[hv]at hA1;exact hA1.elim
 |some vs=>rw[hv]at hA1;exact BL (s:={s with heap:=hp1,toks:=tk1}) KO H O hb (yt O hx hy) Z1 (hl.ext e1) r1 hv hA1 (hE.at hp1 tk1) (gA.at hQ e1 hp1 tk1)
theorem Dh(KO:fY X){f':Fs}{xs:List Nat}{es:List Expr}{kk:Nat}{tp:Pos}{it:ME}{b:List MS}{pit:Expr}{pb:List Stmt}{pos:Pos}(HE:SE X n f'.e)(H:SS X n f'.s)(O:bB X f n)(hx:BY (qL f.scope) xs es=true)(hs:qK pit=true)(h1:iN X.K X.C f.scope k it pit=true)(hb:BY (gv X.K X.C f.scope k) b pb=true)(Z:aO X f m γ g s.heap)(hl:X.Ls f γ m l):
  g9 X f ((f'.e l g it).bind λv g=>match gz g v with
  |some vs=>TA g v λg=>loop f' (λl v=>SK l xs v) b l g vs
  |none=>.st) (exec (.For (.Tuple es kk tp) pit pb [] pos) f.env) γ s:=by
 intro Φ Ψ Q E hA hE hQ;refine For_turns Z.F ?_ (Gb hs) hE.MU;refine HE f m l g γ s k it pit O h1 Z hl _ Ψ _ E (R.All.bind.mp hA) (hE.zN m) λv g1 γ1 u hp1 tk1 hA1 e1 Z1 r1=>?_;cases hv:gz g1 v with
 |none=>rw[hv]at hA1;exact hA1.elim
 |some vs=>rw[hv]at hA1;exact BL (s:={s with heap:=hp1,toks:=tk1}) KO H O hb (λγ' g' s' m' l' l'' v' x' hst hr Z' hl' Q' E' hQ'=>ue O hx hr hst Z' hl' hQ') Z1 (hl.ext e1) r1 hv hA1 (hE.at hp1 tk1) (gA.at hQ e1 hp1 tk1)
theorem Gd{a c:Int}(ha:a.natAbs<=1000000)(hc:c.natAbs<=1000000):Builtin.Range.small a c 1=true:=small_one (by omega) (by omega) (by omega) (by omega)
theorem VA(a c:Int):Builtin.Range.rangeSize a c 1=(((c - a).toNat:Nat):Int):=by rw[rangeSize_one];split<;>omega
theorem Ge{f':Fs}{x:Nat}{y:Str}{np:Pos}{b:List MS}{pb:List Stmt}{a c:Int}{r:Addr}{t u v:Tok}{hp:Heap}{tk:Nat}(H:SS X n f'.s)(O:bB X f n)(hb:BY (gv X.K X.C f.scope k) b pb=true)(hx:nm x=y)(hy:eu f.scope y=true)
  (Z:aO X f m γ g hp) (hl:X.Ls f γ m l) (hr:IsRange hp r a c 1 t u v) (ha:a.natAbs<=1000000) (hc:c.natAbs<=1000000)
  {Φ:Fl->G->Prop} {Ψ:Prop} {Q:Flow->Shared->Prop} {E:Value->Shared->Prop} (hA:(loop f' (λl v=>some (bY l x v)) b l g (lP a c)).All Φ Ψ) (hE:lQ X f E Ψ s) (hQ:gA X f Φ Q γ s):
  wpAny X.M f.A (pyIter (.ref r)) (λit s₂=>TurnsAt X.prog X.w f.A f.h₀ f.env (.Name y np) pb Q E it s₂) E {s with heap:=hp,toks:=tk}:=by
 refine wpAny_pyIter_range (s:={s with heap:=hp,toks:=tk}) hr (Gd ha hc) ?_
 refine yr (γ:=γ) (s:=s) (tk:=tk) (hp:=hp.push _) H O hb (KTurns.ofWalks (LCg.range_walks (I:=hp.objs.size) O.hh a (c - a).toNat) λi v s Q E st q=>by unfold letOwnedTupleGo;exact wpAny_pure q) (by unfold lP;rw[List.length_map,List.length_range]) (λh=>?_) (next_is_new Z.F)
  (λhm=>absurd (List.mem_singleton.mp hm) (Nat.ne_of_lt Z.F.ns.lt)) (λi h st=>⟨_,st,BJ rfl (by decide) (by decide) (by decide) (λv q=>nomatch q)⟩) (λb hb'=>.inl (List.mem_singleton.mp hb')) ?_ (yt O hx hy) ⟨Z.F.push _,λp hp=>⟨Heap.get?_push_of_some _ (Z.N p hp).1,(Z.N p hp).2⟩,Z.gk⟩ hl ?_ hA hE hQ
 ·obtain⟨p,hp',q⟩:=List.mem_map.mp h;exact absurd (Heap.lt_size (Z.N p hp').1) (by rw[q];exact Nat.lt_irrefl _)
 ·rintro i v' h γ' hi e ⟨t',rfl⟩
  refine⟨.int (a+(i:Int)),?_,.int _ t'⟩;unfold lP;rw[List.getElem?_map,List.getElem?_range hi];rfl
 ·show IsRangeIter _ _ _ _ _;rw[VA];simpa using Heap.get?_push_size _ rfl
noncomputable def VB{α:Type}(p q:V)(k:Int->Int->R α):R α:=match p,q with
  | .int p,.int q=>k p q
  |_,_=>.st
theorem yu{α:Type}{p q:V}{k:Int->Int->R α}{Φ:α->G->Prop}{Ψ:Prop}(h:(VB p q k).All Φ Ψ):∃a c,p=.int a/\q=.int c/\(k a c).All Φ Ψ:=by
 cases p with
 |int a=>cases q with
  |int c=>exact⟨a,c,rfl,rfl,h⟩
  |_=>exact h.elim
 |_=>exact h.elim
noncomputable def RI(X:Cx)(sc:Scope)(k:Nat)(hi:ME):Option ME->List Expr->Prop
 |none,[ph]=>iN X.K X.C sc k hi ph=true
 |some lo,[pl,ph]=>iN X.K X.C sc k lo pl=true/\iN X.K X.C sc k hi ph=true
 |_,_=>False
theorem Aa(KO:fY X){f':Fs}{hi:ME}{y:Str}{np pos:Pos}(HE:SE X n f'.e)(O:bB X f n)(hy:y="range")(hg:b7 f.scope y=true)(Z:aO X f m γ g s.heap)(hl:X.Ls f γ m l)
  {α:Type} {K:Int->Int->G->R α} {Φ:α->G->Prop} {Ψ:Prop} {Q:Value->Shared->Prop} {E:Value->Shared->Prop} (hE:vH X f m E Ψ s)
  (hQ:∀a c t u v g' γ' h' tk r,(K a c g').All Φ Ψ->Ext γ γ'->aO X f m γ' g' h'->IsRange h' r a c 1 t u v->Q (.ref r) {s with heap:=h',toks:=tk}):∀{lo:Option ME}{ps:List Expr},RI X f.scope k hi lo ps->
  ((match lo with|none=>R.ok (V.int 0) g|some e=>f'.e l g e).bind λp g=>(f'.e l g hi).bind λq g=>VB p q λp q=>K p q g).All Φ Ψ->wpAny X.M f.A (eval (.Call (.Name y np) ps [] pos) f.env) Q E s:=by
 subst hy;have push:∀{γ':Ga}{g':G}{h:Heap}{o:Obj},aO X f m γ' g' h->aO X f m γ' g' (h.push o):=λZ=>⟨Z.F.push _,λp hp=>⟨Heap.get?_push_of_some _ (Z.N p hp).1,(Z.N p hp).2⟩,Z.gk⟩;intro lo ps hps hA;refine Call_Name rfl (fE KO Z O (by decide) PyProof.Rows.boot_range hg ?_)
 match lo,ps,hps,hA with
 |none,[ph],hps,hA=>refine xY HE O hps Z hl (R.All.bind.mp (show((f'.e l g hi).bind λq g=>VB (.int 0) q λp q=>K p q g).All Φ Ψ from hA)) hE λv g1 γ1 u h1 tk hA1 e1 Z1 r1=>?_;obtain⟨a,c,e0,rfl,hA2⟩:=yu hA1;cases e0;obtain⟨t,rfl⟩:=r1.int_inv;exact call_range_1 (s:={s with heap:=h1,toks:=tk}) (hQ 0 c _ _ _ g1 γ1 _ _ _ hA2 e1 (push Z1) (IsRange.new _ _ _ _ _ _ _))
 |some lo,[pl,ph],hps,hA=>
  refine PyProof.Rows.callWith_type1 ?_ (aE (bC hps.1)) (by rw[aE (bC hps.2)];rfl)
  rw[aE (bC hps.1),aE (bC hps.2)];refine AS ?_;refine HE f m l g γ s k lo pl O hps.1 Z hl _ Ψ _ E (R.All.bind.mp hA) hE λv g1 γ1 u h1 tk hA1 e1 Z1 r1=>?_;refine AS ?_;refine HE f m l g1 γ1 {s with heap:=h1,toks:=tk} k hi ph O hps.2 Z1 (hl.ext e1) _ Ψ _ E (R.All.bind.mp hA1) (hE.at h1 tk) λv2 g2 γ2 u2 h2 tk2 hA2 e2 Z2 r2=>wpAny_pure ?_
  obtain⟨a,c,rfl,rfl,hA3⟩:=yu hA2;obtain⟨t,rfl⟩:=r1.int_inv;obtain⟨t2,rfl⟩:=r2.int_inv;exact call_range_2 (s:={s with heap:=h2,toks:=tk2}) (hQ _ _ _ _ _ g2 γ2 _ _ _ hA3 (e1.trans e2) (push Z2) (IsRange.new _ _ _ _ _ _ _))
theorem Gf{α:Type}{a b:Bool}{r:R α}{Φ:α->G->Prop}{Ψ:Prop}(h:(match a,b with|true,true=>r|_,_=>.st).All Φ Ψ):a=true/\b=true/\r.All Φ Ψ:=by
 cases a with
 |false=>exact h.elim
 |true=>cases b with
  |false=>exact h.elim
  |true=>exact⟨rfl,rfl,h⟩
theorem ug(KO:fY X){f':Fs}{x:Nat}{y:Str}{lo:Option ME}{hi:ME}{b:List MS}{np rp cp:Pos}{r:Str}{ps:List Expr}{pb:List Stmt}{pos:Pos}(HE:SE X n f'.e)(H:SS X n f'.s)(O:bB X f n)(hx:nm x=y)(hy:eu f.scope y=true)(hr:r="range")(hg:b7 f.scope r=true)
  (hps:RI X f.scope k hi lo ps) (hb:BY (gv X.K X.C f.scope k) b pb=true) (Z:aO X f m γ g s.heap) (hl:X.Ls f γ m l):
  g9 X f ((match lo with|none=>R.ok (V.int 0) g|some e=>f'.e l g e).bind λp g=>(f'.e l g hi).bind λq g=>VB p q λp q=>match Nat.ble p.natAbs big,Nat.ble q.natAbs big with
   |true,true=>loop f' (λl v=>some (bY l x v)) b l g (lP p q)
   |_,_=>.st) (exec (.For (.Name y np) (.Call (.Name r rp) ps [] cp) pb [] pos) f.env) γ s:=by
 intro Φ Ψ Q E hA hE hQ;refine For_turns Z.F ?_ (λx=>rfl) hE.MU;refine Aa (K:=λp q g=>match Nat.ble p.natAbs big,Nat.ble q.natAbs big with
   |true,true=>loop f' (λl v=>some (bY l x v)) b l g (lP p q)
   |_,_=>.st) KO HE O hr hg Z hl (hE.zN m) (λa c t u v g' γ' h' tk rr hA1 e1 Z1 hR=>?_) hps hA
 obtain⟨h1,h2,hA1⟩:=Gf hA1;exact Ge H O hb hx hy Z1 (hl.ext e1) hR (Nat.le_of_ble_eq_true h1) (Nat.le_of_ble_eq_true h2) hA1 hE (gA.at hQ e1 s.heap s.toks)
end
noncomputable def qR(sc:Scope):Bool:=match sc.names.filter (λx=>x.2==.cell)with
 |[]=>true
 |[p]=>sc.names.lookup p.1==some .cell
 |_=>false
theorem yw{ns:List (Str×NameKind)}:∀(n:Nat)(acc:List (Str×Addr)),ns.filter (λx=>x.2==.cell)=[]->cellsFrom n ns acc=acc:=by
 induction ns with
 |nil=>exactλ_ _ _=>rfl
 |cons p r ih=>
  intro n acc h;obtain⟨y,kd⟩:=p;refine(?_:(if(kd==.cell)=true then cellsFrom (n+1) r ((y,n)::acc)else cellsFrom n r acc)=acc)
  rw[List.filter_cons]at h;by_cases hk:(kd==NameKind.cell)=true
  ·rw[if_pos hk]at h;exact nomatch h
  ·rw[if_neg hk]at h ⊢;exact ih n acc h
theorem Di{ns:List (Str×NameKind)}:∀(n:Nat)(p:Str×NameKind),ns.filter (λx=>x.2==.cell)=[p]->cellsFrom n ns []=[(p.1,n)]:=by
 induction ns with
 |nil=>exactλ_ _ h=>nomatch h
 |cons q r ih=>
  intro n p h;obtain⟨y,kd⟩:=q;refine(?_:(if(kd==.cell)=true then cellsFrom (n+1) r [(y,n)]else cellsFrom n r [])=[(p.1,n)])
  rw[List.filter_cons]at h;by_cases hk:(kd==NameKind.cell)=true
  ·rw[if_pos hk]at h ⊢;obtain⟨e,hr⟩:=List.cons.inj h;rw[yw _ _ hr,<- e]
  ·rw[if_neg hk]at h ⊢;exact ih n p h
set_option tactic.hygienic true in
theorem jE{sc:Scope}(h:qR sc=true):((∀y,sc.names.lookup y≠some .cell)/\∀n,cellsFrom n sc.names []=[])\/
  ∃x,sc.names.lookup x=some .cell/\(∀y,sc.names.lookup y=some .cell->y=x)/\∀n,cellsFrom n sc.names []=[(x,n)]:=by
 have mem:∀{y},sc.names.lookup y=some .cell->(y,NameKind.cell)∈sc.names.filter (λx=>x.2==.cell):=λhy=>List.mem_filter.mpr ⟨mem_of_lookup hy,rfl⟩;unfold qR at h;split at h
 ·rename_i e;refine .inl ⟨λy hy=>?_,λn=>yw _ _ e⟩;have:=mem hy;rw[e]at this;cases this
 ·rename_i p e;refine .inr ⟨p.1,beq_iff_eq.mp h,λy hy=>?_,λn=>Di _ _ e⟩;have:=mem hy;rw[e]at this;rw[<- List.mem_singleton.mp this]
 ·cases h
theorem uh{kf:Str->Option NameKind}{y:Str}(hy:kf y=some .local):∀{bs:List (Str×Value)}{m:Str->Option Value},bindL kf bs m y=(bs.reverse.lookup y).or (m y)
 |[],_=>rfl
 |(n,v)::r,m=>by
  unfold bindL;rw[uh hy,List.reverse_cons,List.lookup_append,Option.or_assoc];congr 1;rw[List.lookup_cons];by_cases e:y=n
  ·subst e;rw[if_pos hy,if_pos rfl,beq_self_eq_true];rfl
  ·have:(y==n)=false:=beq_eq_false_iff_ne.mpr e;rw[this];split
   ·exact if_neg e
   ·rfl
theorem um{kf:Str->Option NameKind}{y:Str}(hy:kf y≠some .local):∀{bs:List (Str×Value)}{m:Str->Option Value},bindC kf bs m y=(bs.reverse.lookup y).or (m y)
 |[],_=>rfl
 |(n,v)::r,m=>by
  unfold bindC;rw[um hy,List.reverse_cons,List.lookup_append,Option.or_assoc];congr 1;rw[List.lookup_cons];by_cases e:y=n
  ·subst e;rw[if_neg hy,if_pos rfl,beq_self_eq_true];rfl
  ·have:(y==n)=false:=beq_eq_false_iff_ne.mpr e;rw[this];split
   ·rfl
   ·exact if_neg e
set_option tactic.hygienic true in
theorem Ab{X:Cx}{γ:Ga}{g:G}{sc:Scope}{L':Addr}{cm:Str->Option Value}{cells:List (Addr×Obj)}(hc:qR sc=true)(Y:CellsAre cm (cellsFrom (L'+1) sc.names []) cells)(lt:∀p∈γ.news,p.1 < L')(Gk:X.gq γ g):
  ∃γc,γc.news=cells++γ.news/\Ext γ γc/\X.gq γc g/\∀y c,(cellsFrom (L'+1) sc.names []).lookup y=some c->∃o,(c,o)∈γc.news/\c∉γc.mut/\o.data=.cell (cm y):=by
 rcases jE hc with⟨_,e⟩|⟨x,_,_,e⟩
 ·rw[e]at Y ⊢;cases Y;exact⟨γ,rfl,Ext.refl γ,Gk,λy c h=>by cases h⟩
 ·rw[e]at Y ⊢;obtain⟨o,rfl,ho⟩:=CellsAre.one Y;have fr:∀p∈γ.news,p.1 < L'+1:=λp hp=>Nat.lt_succ_of_lt (lt p hp);refine⟨γ.push (L'+1) o,rfl,Ext.push Gk,Gk.push fr,λy c h=>?_⟩;have:y=x/\L'+1=c:=by
   rw[List.lookup_cons]at h;split at h
   ·rename_i q;exact⟨beq_iff_eq.mp q,Option.some.inj h⟩
   ·cases h
  obtain⟨rfl,rfl⟩:=this;rcases(At.push Gk fr:X.At (γ.push (L'+1) o) (L'+1) o)with⟨h1,h2⟩|h2
  ·exact⟨o,h1,h2,ho⟩
  ·refine⟨o,.head _,λhm=>?_,ho⟩;obtain⟨p,hp,q⟩:=List.mem_map.mp (Gk.nU _ hm);exact absurd (fr p hp) (by rw[q];exact Nat.lt_irrefl _)
inductive vX(X:Cx)(kk:Nat)(a:Nat)(fd:Fn):Prop
 |mk (name qual:Str) (params:Arguments) (body:List Stmt) (scope:Scope) (dV kV doc pm cdv ct oc:Value) (an od:Option Addr) (osl:Array (Option Value))
  (ho:X.K.lookup a=some ⟨oc,od,.func (fnOf name qual params body scope dV kV doc pm an cdv ct),osl⟩) (hcd:codeIn X.K cdv qual=true) (hck:BY (gv X.K X.C scope kk) fd.body body=true)
  (hco:scope.isCoroutine=false) (hgen:scope.isGenerator=false) (hkind:scope.kind=.function) (hcell:qR scope=true)
  (hbi:∀(γ:Ga)(s:Shared)(us:List Value)(vs:List V)(l:Loc),X.K.In s.heap->X.cH γ us vs->Tj fd.ps vs fd.df=some l->
   ∃binds,BindsTo s (fnOf name qual params body scope dV kV doc pm an cdv ct) ⟨us,[]⟩ binds/\(∀y∈binds,scope.names.lookup y.1=some .local\/scope.names.lookup y.1=some .cell)/\∀x v,aT l x=some v->∃u,binds.reverse.lookup (nm x)=some u/\X.RV γ u v)
section
variable{X:Cx}{f:Fm}{m:Str->Option Value}{γ:Ga}{g:G}{s:Shared}{n:Nat}{l:Loc}{k:Nat}
set_option tactic.hygienic true in
theorem Vj{f':Fs}{A:Around}{a:Nat}{fd:Fn}{us:List Value}{vs:List V}{n₀:Nat}(O:bB X f n₀)(hfr:A.frames=some (f.env::f.outer))(hh:A.handled=none)(hdp:A.depth+1+3 * (n+X.sl) < recursionLimit)(hun:A.units+3+40 * (n+X.sl)+100 < cLine)
  (FO:vX X k a fd) (H:SS X n f'.s) (rs:X.cH γ us vs) (hb:Tj fd.ps vs fd.df=some l) (Z:aO X f m γ g s.heap)
  {Φ:Fl->G->Prop} {Ψ:Prop} {R:Result->Shared->Prop} (hA:(blk f' l g fd.body).All Φ Ψ)
  (hE:Ψ->∀e a0 g₂ h' tk,Fr f.h₀ f.L g₂ m->g₂.UpToSlots h'->Heap.FlyingW f.base (f.env::f.outer) e (.ref X.CF) a0 h'->R (.error (.ref e)) {s with heap:=h',toks:=tk})
  (hQ:∀x g' γ' u h' tk,Φ x g'->Ext γ γ'->aO X f m γ' g' h'->(match x with| .ret v=>X.RV γ' u v| .next _=>u=.none| .cont _=>True)->R (.ok (.ret u)) {s with heap:=h',toks:=tk}):
  codeAny X.M A (.call (.ref a) ⟨us,[]⟩) R s:=by
 obtain⟨name,qual,params,body,scope,dV,kV,doc,pm,cdv,ct,oc,an,od,osl,ho,hcd,hck,hco,hgen,hkind,hcell,hbi⟩:=FO;obtain⟨binds,hbind,hloc,hLs⟩:=hbi γ s us vs l (O.X₀.keeps Z.F.keep) rs hb;have hnd:((cellsFrom 0 scope.names []).map (·.1)).Nodup:=by rcases jE hcell with⟨_,e⟩|⟨x,_,_,e⟩<;>rw[e]<;>simp
 refine code_defC O.B Z.F O.X₀ Z.N O.T hfr rfl O.kind ho hcd (Nat.lt_of_le_of_lt (Nat.le_trans (Nat.le_add_right _ 1) (Nat.le_add_right _ _)) hdp) hbind (List.all_eq_true.mpr λy hy=>Bool.or_eq_true_iff.mpr ((hloc y hy).imp beq_iff_eq.mpr beq_iff_eq.mpr)) hnd (λg₀ L' h₁ tk₁ cells FG F' N' Y B' X' T' lt=>?_) hco hgen hkind
 let fc:Fm:={A:=A.deeper (envOfC qual scope L' a cdv),A₀:=A,base:=f.base,outer:=f.env::f.outer,h₀:=g₀,L:=L',name:=qual,scope:=scope,fa:=a,cd:=cdv,cl:=cellsFrom (L'+1) scope.names []}
 have kl:∀y,scope.names.lookup y=some .local->fc.cl.lookup y=none:=λy hy=>by
  show(cellsFrom (L'+1) scope.names []).lookup y=none;rcases jE hcell with⟨_,e⟩|⟨x,hx,_,e⟩
  ·rw[e];rfl
  ·rw[e,List.lookup_cons];split
   ·rename_i q;rw[beq_iff_eq.mp q,hx]at hy;cases hy
   ·rfl
 have kc:∀y,scope.names.lookup y=some .cell->∃c,fc.cl.lookup y=some c:=λy hy=>by
  show∃c,(cellsFrom (L'+1) scope.names []).lookup y=some c;rcases jE hcell with⟨n1,e⟩|⟨x,_,h1,e⟩
  ·exact absurd hy (n1 y)
  ·rw[e,h1 y hy,List.lookup_cons,beq_self_eq_true];exact⟨_,rfl⟩
 have cn:(∀y∈scope.names,y.2≠.cell)->fc.cl=[]:=λhn=>by
  show cellsFrom (L'+1) scope.names []=[];rcases jE hcell with⟨_,e⟩|⟨x,hx,_,_⟩
  ·exact e _
  ·exact absurd rfl (hn _ (mem_of_lookup hx))
 have Oc:bB X fc n:=⟨B',Around.frames_deeper hfr,X',T',hh,hkind,kl,kc,cn,hdp,by show(A.deeper _).units+40 * (n+X.sl)+100 < cLine;exact hun⟩
 obtain⟨γc,enew,ec,Gc,hcl⟩:=Ab hcell Y lt Z.gk;have Zc:aO X fc (bindL (envOfC qual scope L' a cdv).kindOf binds λ_=>none) γc g h₁:=⟨F',by rw[enew];exact N',Gc⟩
 have hLs':X.Ls fc γc (bindL (envOfC qual scope L' a cdv).kindOf binds λ_=>none) l:=λx v hx=>by
  obtain⟨u,hu,r⟩:=hLs x v hx;refine⟨u,⟨λhn=>?_,λc hc=>?_⟩,r.ext ec⟩
  ·have hk:=hloc _ (List.mem_reverse.mp (mem_of_lookup hu));rcases hk with hk|hk
   ·rw[uh hk,hu];rfl
   ·obtain⟨c,hc⟩:=kc _ hk;rw[hc]at hn;cases hn
  ·obtain⟨o,h1,h2,h3⟩:=hcl _ c hc;refine⟨o,h1,h2,?_⟩;rw[h3];have hk:(envOfC qual scope L' a cdv).kindOf (nm x)≠some .local:=λhk=>by rw[kl _ hk]at hc;cases hc
   rw[um hk,hu];rfl
 refine lE (f:=fc) (s:={s with heap:=h₁,toks:=tk₁}) H Oc hck Zc hLs' Φ Ψ _ _ hA ⟨PassesOwn.leaving,λp m' e a0 g₂ h' tk Fg hsm hfl=>?_,λp m' e h' tk Fh hm=>?_⟩ λx g' γ' fl h' tk m' p e Z' r=>?_
 ·refine wpAny_leaves_onW Oc.fr rfl hfl λh'' x1 x2=>?_;exact hE p e a0 g₀ h'' tk FG ((Heap.UpToSlots.of_keeps Fg.keep).trans (hsm.trans x2)) x1
 ·have K':=pushX (env:=fc.env) B' Fh rfl hkind;obtain⟨hnew,oe,vs',a0,he,hcls,hd,h0,h1⟩:=hm;have hen:f.base.get? e=none:=by
   cases q:f.base.get? e with
   |none=>rfl
   |some o=>have:=B'.stays e o q;rw[hnew]at this;cases this
  refine wpAny_leaving_firstW (a0:=a0) K'.stack K'.frames rfl he K'.stays hen hd h1 h0 λh'' hL=>?_;obtain⟨k1,⟨_,_,k2⟩,k3,k4⟩:=hL;exact hE p e a0 g₀ h'' tk FG ((Heap.UpToSlots.of_keeps Fh.keep).trans k4) ⟨k1,hen,k2,by rw[<- hcls];exact k3⟩
 ·refine leaveK_ Z'.F Z'.N λF0 N0=>?_;refine hQ x g' γ' _ h' tk p (ec.trans e) ⟨F0,N0,Z'.gk⟩ ?_;cases x with
  |next _=>obtain⟨rfl,_⟩:=r.kF;rfl
  |cont _=>exact trivial
  |ret v=>obtain⟨u,rfl,r⟩:=r.mZ;exact r
theorem m6(A:Around)(id:String)(args:Args):(A.under (.builtin id args)).frames=A.frames:=by obtain⟨h,d,fr,gu,un⟩:=A;cases fr<;>rfl
theorem Ny{f':Fs}{a:Nat}{fd:Fn}{us:List Value}{vs:List V}(O:bB X f (n+1))(FO:vX X k a fd)(H:SS X n f'.s)(rs:X.cH γ us vs)(Z:aO X f m γ g s.heap):
  dh X f m (λγ' b a=>X.RV γ' b a) (match Tj fd.ps vs fd.df with
    |none=>R.st
    |some l=>(blk f' l g fd.body).bind λx g=>match x with
     | .ret v=>.ok v g
     | .next _=>.ok .none g
     | .cont _=>.st) (call (.ref a) us) γ s:=by
 cases hb:Tj fd.ps vs fd.df with
 |none=>exact dh.stop
 |some l=>
  intro Φ Ψ Q E hA hE hQ;refine wpAny_call (Vj (n:=n) O O.fr O.hh (Nat.lt_of_le_of_lt (Nat.add_le_add_right (Nat.le_succ _) _) (Jc O.dp)) (QW O.un) FO H rs hb Z (R.All.bind.mp hA) (λp e a0 g₂ h' tk F U W=>hE.EA p e a0 g₂ h' tk F U W) λx g' γ' u h' tk p e Z' r=>?_);cases x with
  |ret v=>exact hQ v g' γ' u h' tk p e Z' r
  |next _=>subst r;exact hQ .none g' γ' .none h' tk p e Z' .none
  |cont _=>exact p.elim
inductive Q7(C:Cfg)(f':Fs)(g:G)(a:Nat)(k:EM)(vs:List V)(Φ:V->G->Prop)(Ψ:Prop):Prop
 |mk (d:Nat) (fd:Fn) (l:Loc) (hd:C.tR a vs=some d) (hf:aT C.ft k.init=some fd) (hb:Tj fd.ps (.inst a d::vs) fd.df=some l)
  (h:((g.alloc d (slots C d)).bind λ_ g=>(blk f' l g fd.body).bind λx g=>match x with| .next _=>.ok (.inst a d) g|_=>.st:R V).All Φ Ψ)
theorem yx{C:Cfg}{f':Fs}{a:Nat}{k:EM}{vs:List V}{Φ:V->G->Prop}{Ψ:Prop}(h:(T6 C f' g a k vs).All Φ Ψ):Q7 C f' g a k vs Φ Ψ:=by
 have h:(match C.tR a vs with
 |none=>.st
 |some d=>match aT C.ft k.init with
  |none=>.st
  |some fd=>match Tj fd.ps (.inst a d::vs) fd.df with
   |none=>.st
   |some l=>(g.alloc d (slots C d)).bind λ_ g=>(blk f' l g fd.body).bind λx g=>match x with
    | .next _=>.ok (.inst a d) g
    |_=>.st:R V).All Φ Ψ:=h
 cases hd:C.tR a vs with
 |none=>rw[hd]at h;exact h.elim
 |some d=>
  rw[hd]at h;dsimp only at h;cases hf:aT C.ft k.init with
  |none=>rw[hf]at h;exact h.elim
  |some fd=>
   rw[hf]at h;dsimp only at h;cases hb:Tj fd.ps (.inst a d::vs) fd.df with
   |none=>rw[hb]at h;exact h.elim
   |some l=>rw[hb]at h;exact⟨d,fd,l,hd,hf,hb,h⟩
theorem JW(KO:fY X){f':Fs}{c:Nat}{kc:EM}{us:List Value}{vs:List V}(O:bB X f (n+1))(FO:∀a fd,aT X.C.ft a=some fd->vX X k a fd)(hc:aT X.C.ct c=some kc)(H:SS X n f'.s)(rs:X.cH γ us vs)(Z:aO X f m γ g s.heap):
  dh X f m (λγ' b a=>X.RV γ' b a) (T6 X.C f' g c kc vs) (call (.ref c) us) γ s:=by
 intro Φ Ψ Q E hA hE hQ;obtain⟨d,fd,l,hd,hfd,hb,hA⟩:=yx hA;obtain⟨hfree,hA2⟩:=Z.alloc (R.All.bind.mp hA);obtain⟨k1,k2,k3⟩:=KO.cls c kc hc;refine call_cls Z.F O.X₀ Z.N k1 k2 k3 λx dx h' F' N' fr hlt=>?_;have ex1:Ext γ (γ.alloc d dx (dictOf [] 0)):=Ext.alloc Z.gk fr (Z.gk.cell _ _ hfree);have g1:X.gq (γ.alloc d dx (dictOf [] 0)) ⟨jf g.hp d (slots X.C d),g.left,g.lk⟩:=
  Z.gk.alloc fr hfree ⟨dx,dictOf [] 0,[],[],cB,.head _,lT (λe he=>nomatch List.mem_toArray.mp he) .nil .nil,.nil,rfl,ud KO d⟩
 have fr2:∀p∈(γ.alloc d dx (dictOf [] 0)).news,p.1 < x:=λp hp=>(List.mem_cons.mp hp).elim (λe=>e▸hlt) λhp=>Nat.lt_trans (fr p hp) hlt;have ri:X.RV ((γ.alloc d dx (dictOf [] 0)).push x (instObj c dx)) (.ref x) (.inst c d):=.inst (show(γ.alloc d dx (dictOf [] 0)).rho.lookup d=some dx from cB) (At.push g1 fr2);have eA:Ext γ ((γ.alloc d dx (dictOf [] 0)).push x (instObj c dx)):=ex1.trans (Ext.push g1);have Z2:aO X f m ((γ.alloc d dx (dictOf [] 0)).push x (instObj c dx)) ⟨jf g.hp d (slots X.C d),g.left,g.lk⟩ h':=⟨F',N',g1.push fr2⟩;clear ex1 g1 fr2 hA;refine Vj (f':=f') (n:=n) (k:=k) (A:=f.A.under _) (s:={s with heap:=h'}) O ((m6 _ _ _).trans O.fr) O.hh (by show f.A.depth+1+1+3 * (n+X.sl) < _;exact Jc O.dp) (by show f.A.units+1+3+40 * (n+X.sl)+100 < _;exact M5 O.un) (FO _ fd hfd) H (.cons ri (rs.ext eA)) hb Z2 (R.All.bind.mp hA2) (λp e a0 g₂ h'' tk F U W=>hE.EA p e a0 g₂ h'' tk F U W) λy g' γ' u h'' tk p e Z' r=>?_
 cases y with
 |next _=>subst r;exact⟨rfl,hQ (.inst c d) g' γ' (.ref x) h'' tk p (eA.trans e) Z' (ri.ext e)⟩
 |ret v=>exact p.elim
 |cont _=>exact p.elim
end
end Mine
namespace Mine
open PySem
open Sem (wp)
noncomputable def dK:List Value:=[.type "Exception",.type "BaseException",.type "object"]
noncomputable abbrev JX(C:Addr):Obj:=excClassObj "CheckFault" "CheckFault" C 43 [.ref 31] (.ref 31::dK) true [] [] false none none (some (.ref 35)) none (some (.str "CheckFault" 218)) (some (.str "CheckFault" 226)) (some (.bool true)) "Exception.__new__"
section
variable{prog:Program}{w:World}{A:Around}{E:Value->Shared->Prop}{R:Result->Shared->Prop}{h:Heap}{g:Array GenState}{d:Drawn}{t:Nat}{os:OsState}
variable{C:Addr}
theorem lF{T:String}:(Value.ref C::Value.ref 31::dK).contains (.type T)=dK.contains (.type T):=rfl
theorem JY{rest:List Value}(hC:h.get? C=some (JX C))
  (hq:R (.ok (.ret (.ref (h.objs.size+1)))) ⟨(h.push {cls:=.type "tuple",data:=.seq rest.toArray}).push
   {cls:=.ref C,data:=.fields #[.ref h.objs.size,.none,.none,.none,.bool false,.none]},g,d,t,os⟩) (hrest:rest.length<=sizeLine:=by size_fits):
  codeAny (model prog w) A (.builtin "Exception.__new__" ⟨.ref C::rest,[]⟩) R ⟨h,g,d,t,os⟩:=by
 have F:=PySem.F.excBase_Exception;have hends:=F.ends;have hcB:(Value.ref C::Value.ref 31::dK).contains (.type "Exception")=true:=lF.trans (by decide+kernel)
 have hcA:(Value.ref C::Value.ref 31::dK).contains (.type "AttributeError")=false:=lF.trans (by decide+kernel)
 have hcN:(Value.ref C::Value.ref 31::dK).contains (.type "NameError")=false:=lF.trans (by decide+kernel)
 refine codeAny_builtinAt F.entry ?_;unfold Builtin.«BaseException.__new__»;refine wpAt_bind ?_;show wpAt _ _ _ (stack>>=_) _ _ _;refine wpAt_bind (wpAt_stack λp below=>wpAt_of_wpAny ?_)
 wp_walk
 refine wpAt_of_wpAny ?_;rw[F.owner];repeat(first|with_reducible refine wpAny_madeHere_exc F.canon hC ?_|with_reducible refine wpAny_loadPart_at hC ?_|(with_reducible refine wpAny_isSubtype_exc hC ?_;first|rw[hcB]|rw[hcA]|rw[hcN])|wp_step)
 show R _ _;rw[Heap.size_push];exact hq
theorem sW{M:Model}{rest:List Value}{Q:Unit->Shared->Prop}(hC:h.get? C=some (JX C))
  (hq:Q () ⟨h,g,d,t,os⟩):wpAny M A (checkBuiltinCall "Exception.__new__" ⟨.ref C::rest,[]⟩) Q E ⟨h,g,d,t,os⟩:=
 wpAny_check_new_subU PySem.F.excBase_Exception (bmB:=.ref 31::dK) (show dK.contains (.type "Exception")=true from by decide+kernel) .base hC hq
theorem qT{M:Model}{e:Addr}{oe:Obj}{rest:List Value}{Q:Unit->Shared->Prop}
  (hC:h.get? C=some (JX C)) (he:h.get? e=some oe) (hcls:oe.cls=.ref C) (hq:Q () ⟨h,g,d,t,os⟩):
  wpAny M A (checkBuiltinCall "Exception.__init__" ⟨.ref e::rest,[]⟩) Q E ⟨h,g,d,t,os⟩:=by
 have F:=PySem.F.excBase_Exception;have hcB:(Value.ref C::Value.ref 31::dK).contains (.type "Exception")=true:=lF.trans (by decide+kernel)
 have hshort:=F.noStar;simp only[checkBuiltinCall,F.initKind,F.initSplit,F.initRow];repeat(first|(with_reducible refine wpAny_loadPart_at he ?_;rw[hcls])|with_reducible refine wpAny_loadPart_at hC ?_|(with_reducible refine wpAny_isSubtype_exc hC ?_;rw[hcB])|wp_step)
 refine wpAny_onRaise ?_;rw[show∀(a b:String)(n:Nat),Bind.check ⟨.positional,"*","Exception",.self,[⟨"args",.varPos,false⟩]⟩ a b n (List.map (λx=>x.fst) ({pos:=Value.ref e::rest}:Args).kw)=pure ()from
  λa b n=>check_star_args _ _ _ _ _ _]
 exact wpAny_pure hq
theorem Gg{K:PySem.W.Frag}{fi:Addr}{rest:List Value}(X:K.In h)(hC:h.get? C=some (JX C))
  (hi:PySem.W.findIn K (.ref C) "__init__"=some (some (.ref fi))) (hf:PySem.W.typeIn K (.ref fi)=some (.type "function"))
  (hq:codeAny (model prog w) (A.under (.builtin "type.__call__" ⟨.ref C::rest,[]⟩)) (.call (.ref fi) ⟨.ref (h.objs.size+1)::rest,[]⟩) (PySem.W.InitBack (h.objs.size+1) R)
   ⟨(h.push {cls:=.type "tuple",data:=.seq rest.toArray}).push {cls:=.ref C,data:=.fields #[.ref h.objs.size,.none,.none,.none,.bool false,.none]},g,d,t,os⟩) (hrest:rest.length<=sizeLine:=by size_fits):
  codeAny (model prog w) A (.call (.ref C) ⟨rest,[]⟩) R ⟨h,g,d,t,os⟩:=by
 have f1:=tc_lookup;have f2:=tc_bind (.ref C);have hT:(⟨h,g,d,t,os⟩:Shared).TypeIs (.ref C) "type":=⟨_,hC,rfl⟩;refine codeAny_of_tree ?_;show wpAny _ _ (callAny (.ref C) _) _ _ _;repeat(any_goals(first|assumption|with_reducible refine wpAny_loadPart_at hC ?_|wp_step))
 refine⟨rfl,?_⟩;refine codeAny_call_builtin_at (Code.quiet_builtin _ (by decide+kernel)) entry_typeCall (wpAny_check_type_call_sub hC ?_)
 repeat(first|with_reducible refine wpAny_loadPart_at hC ?_|with_reducible refine wpAny_madeBy_exc hC ?_|wp_step)
 refine codeAny_call_builtin_code (Code.quiet_builtin _ PySem.F.excBase_Exception.quiet) (sW hC ?_);refine JY hC ?_ hrest;show wpAny _ _ _ _ _ _;have hC₁:=Heap.get?_push_of_some {cls:=.ref C,data:=.fields #[.ref h.objs.size,.none,.none,.none,.bool false,.none]}
  (Heap.get?_push_of_some {cls:=.type "tuple",data:=.seq rest.toArray} hC)
 have hget:((h.push {cls:=.type "tuple",data:=.seq rest.toArray}).push
   {cls:=.ref C,data:=.fields #[.ref h.objs.size,.none,.none,.none,.bool false,.none]}).get? (h.objs.size+1)=some
   {cls:=.ref C,data:=.fields #[.ref h.objs.size,.none,.none,.none,.bool false,.none]}:=by heap_get
 have hcC:(Value.ref C::Value.ref 31::dK).contains (.ref C)=true:=by simp
 have X₁:K.In ((h.push {cls:=.type "tuple",data:=.seq rest.toArray}).push {cls:=.ref C,data:=.fields #[.ref h.objs.size,.none,.none,.none,.bool false,.none]}):=
  X.keeps λb o e=>Heap.get?_push_of_some _ (Heap.get?_push_of_some _ e)
 unfold isInstance;repeat(first|with_reducible refine wpAny_loadPart_at hget ?_|wp_step)
 refine wpAny_isSubtype_exc (base:=.ref C) hC₁ ?_;rw[hcC];repeat wp_step
 show wpAny _ _ (typeLookup (.ref C) _) _ _ _;refine(PySem.W.looks_findIn X₁ hi).here ?_;refine wpAny_holding (wpAny_bind ((PySem.W.bind_fn X₁ _ hf).here ?_));refine wpAny_bind (wpAny_call (codeAny_mono hq λr s' z=>?_));rcases r with e|(v|_|_|_)<;>first|exact z|exact z.elim|skip
 obtain⟨rfl,z⟩:=z;exact wpAny_pure (wpAny_pure z)
theorem Gh{e:Addr}{a0:Addr}{rest:List Value}(hC:h.get? C=some (JX C))
  (he:h.get? e=some {cls:=.ref C,data:=.fields #[.ref a0,.none,.none,.none,.bool false,.none]})
  (hq:∀f:Obj->Obj,f {cls:=.ref C,data:=.fields #[.ref a0,.none,.none,.none,.bool false,.none]}={cls:=.ref C,data:=.fields #[.ref h.objs.size,.none,.none,.none,.bool false,.none]}->
   R (.ok (.ret .none)) ⟨(h.push {cls:=.type "tuple",data:=.seq rest.toArray}).update e f,g,d,t,os⟩) (hrest:rest.length<=sizeLine:=by size_fits):
  codeAny (model prog w) A (.call (.builtin "Exception.__init__") ⟨.ref e::rest,[]⟩) R ⟨h,g,d,t,os⟩:=by
 have hb:=PySem.F.excBase_Exception;refine codeAny_call_builtin hb.init.plain hb.initEntry (qT hC he rfl ?_)
 wp_walk
 refine hq _ ?_;rfl
end
end Mine
namespace Mine
open PySem PySem.W PySem.Calls PyProof.Rows Builtin Builtin.ObjectAttr
section
variable{prog:Program}{w:World}{A:Around}{E:Value->Shared->Prop}{s:Shared}{K:Frag}{h₀:Heap}{L:Addr}{m:Str->Option Value}
variable{C:Addr}
theorem JZ{e:Addr}{vs:Array Value}{sl:Array (Option Value)}{v:Value}{name:Str}{t:Tok}{R:Result->Shared->Prop}(F:Fr h₀ L s.heap m)(X₀:K.In h₀)(he:s.heap.get? e=some ⟨.ref C,none,.fields vs,sl⟩)(hL:e≠L)(hn:h₀.get? e=none)
  (hC:K.lookup C=some (JX C)) (ht:takerIn K C name=some none)
  (h:∀h' d tk,Fr h₀ L h' m->h'.get? e=some ⟨.ref C,some d,.fields vs,sl⟩->R (.ok (.ret .none)) {s with heap:=h',toks:=tk}):codeAny (model prog w) A (.call (.builtin "object.__setattr__") ⟨[.ref e,.str name t,v],[]⟩) R s:=by
 have X:=X₀.keeps F.keep;have I:InstAt s.heap e ⟨.ref C,none,.fields vs,sl⟩ C none:=⟨he,rfl,rfl,trivial⟩;have SF:=PySem.F.store_Exception;have hc:clsIn K C=some {name:="CheckFault",bases:=[.ref 31],mro:=.ref C::.ref 31::dK,ns:=43,qualname:="CheckFault",hasDict:=true,slotNames:=[],subclasses:=[],abstract:=false,collection:=none,hasDel:=false}:=by unfold clsIn;rw[hC]
 have sub:Looks (model prog w) s.heap (isInstance (.ref e) (.type "object")) true:=I.type.andThen (looks_mroIn X (by unfold mroIn;rw[hc,Option.bind_some,if_neg (by intro z;cases z)];exact congrArg some (lF.trans (by decide+kernel))))
 refine codeAny_call_builtin SF.slot.plain SF.entry (@check_slot (model prog w) _ _ _ "object.__setattr__" "object" "__setattr__" (.ref e) [.str name t,v] [] _ SF.kind SF.split sub (SF.args (.ref e) (.str name t) v) ?_);obtain⟨attr,ha,hr⟩:=Option.bind_eq_some_iff.mp ht;have hm:Looks (model prog w) s.heap (mroOf (.ref C)) (.ref C::.ref 31::dK):=(looks_clsIn X hc).andThen .now;have L3:Looks (model prog w) s.heap (storeTaker? attr) none:=by
  cases attr with
  |none=>cases hr;exact .now
  |some a=>obtain⟨b,hb,hbb⟩:=Option.map_eq_some_iff.mp hr;refine(looks_takesIn X hb).andThen ?_;cases b<;>first|(cases hbb;done)|exact .now
 rw[osa_eq,refuse_eq];refine wpAny_bind (wpAny_bind (I.type.here (wpAny_bind (hm.here ?_))));rw[refuseLoop_ref,refuseLoop_ref,show refuseLoop (.ref e) "__setattr__" dK=pure ()from SF.passes (.ref e)];refine wpAny_pure (wpAny_bind (I.type.here (wpAny_bind ((looks_findIn X ha).here (wpAny_bind (L3.here ?_))))));show wpAny _ _ (storeInOwnDict (.ref e) (.ref C) _ name v _) _ _ _;refine wpAny_bind (wpAny_pure (wpAny_bind (wpAny_bind (wpAny_loadPart he (wpAny_bind ((looks_clsIn X hc).here ?_))))));have hlt:=Heap.lt_size he;have hxs:e≠s.heap.objs.size:=Nat.ne_of_lt hlt;have hx₁:(s.heap.push {cls:=.type "dict",data:=.dict #[]}).get? e=some ⟨.ref C,none,.fields vs,sl⟩:=Heap.get?_push_of_some _ he;refine wpAny_bind (wpAny_alloc' ?_);refine wpAny_bind (wpAny_update' hx₁ ?_);refine wpAny_pure ?_;have hgd:((s.heap.push {cls:=.type "dict",data:=.dict #[]}).update e λo=>{cls:=o.cls,dict:=some s.heap.objs.size,data:=o.data,slots:=o.slots}).get? s.heap.objs.size
   =some {cls:=.type "dict",data:=.dict #[]}:=
  (Heap.get?_update_ne _ _ _ _ hxs.symm).trans (Heap.get?_push_at rfl rfl)
 have hge:((s.heap.push {cls:=.type "dict",data:=.dict #[]}).update e λo=>{cls:=o.cls,dict:=some s.heap.objs.size,data:=o.data,slots:=o.slots}).get? e
   =some ⟨.ref C,some s.heap.objs.size,.fields vs,sl⟩:=Heap.get?_update_self _ hx₁ rfl
 have hnd:((s.heap.push {cls:=.type "dict",data:=.dict #[]}).update e λo=>{cls:=o.cls,dict:=some s.heap.objs.size,data:=o.data,slots:=o.slots}).Ns s.heap.objs.size (λ_=>none):=
  ⟨_,#[],_,hgd,rfl,λe he=>absurd he (by simp),λ_=>rfl⟩
 have F1:=(F.push {cls:=.type "dict",data:=.dict #[]}).change (Heap.SameBut.update _ e λo=>{cls:=o.cls,dict:=some s.heap.objs.size,data:=o.data,slots:=o.slots}) hL hn;have hLn:s.heap.objs.size≠L:=by obtain⟨oL,_,_,hoL,_⟩:=F.ns;exact(Nat.ne_of_lt (Heap.lt_size hoL)).symm
 have hhn:h₀.get? s.heap.objs.size=none:=by
  cases z:h₀.get? s.heap.objs.size with
  |none=>rfl
  |some o=>exact absurd (Heap.lt_size (F.keep _ _ z)) (Nat.lt_irrefl _)
 show wpAny _ _ (storeInDict s.heap.objs.size (.str name t) name v) _ _ _;unfold storeInDict newKeyGuard;refine wpAny_bind (wpAny_pure (wpAny_bind (wpAny_nsSet1 (Heap.Ns1.of_empty hnd) λh' hn' hs=>?_)));obtain⟨oD,esD,epD,hoD,hdD,hcD⟩:=hn'.count (Within.cons name v Within.nil);refine wpAny_bind (wpAny_lookBehind hoD (by rw[hdD];exact pastItsLine_dict (Nat.le_trans hcD (by rw[List.length_cons,List.length_nil,sizeLine_eq];exact Nat.le_of_ble_eq_true rfl))) ?_)
 refine wpAny_pure ?_;exact h h' _ _ (F1.change hs hLn hhn) ((hs.2 e hxs).trans hge)
theorem Dj{e:Addr}{vs:Array Value}{sl:Array (Option Value)}{v:Value}{name:Str}{Q:Unit->Shared->Prop}(F:Fr h₀ L s.heap m)(X₀:K.In h₀)(he:s.heap.get? e=some ⟨.ref C,none,.fields vs,sl⟩)(hL:e≠L)(hn:h₀.get? e=none)
  (hC:K.lookup C=some (JX C))
  (hs:findIn K (.ref C) "__setattr__"=some (some (.builtin "object.__setattr__"))) (ht:takerIn K C name=some none)
  (h:∀h' d tk,Fr h₀ L h' m->h'.get? e=some ⟨.ref C,some d,.fields vs,sl⟩->Q () {s with heap:=h',toks:=tk}):wpAny (model prog w) A (setAttr (.ref e) name v) Q E s:=
 set_plain (od:=none) (X₀.keeps F.keep) ⟨he,rfl,rfl,trivial⟩ hs (JZ (s:={s with toks:=s.toks+1}) F X₀ he hL hn hC ht λh' d tk F' g'=>h h' d tk F' g')
end
noncomputable abbrev Ml:List Stmt:=[.Expr (.Call (.Attribute (.Name "Exception" ⟨5,8,5,17⟩) "__init__" ⟨5,8,5,26⟩) [.Name "self" ⟨5,27,5,31⟩,.Name "text" ⟨5,33,5,37⟩] [] ⟨5,8,5,38⟩) ⟨5,8,5,38⟩,.Assign [.Attribute (.Name "self" ⟨6,8,6,12⟩) "text" ⟨6,8,6,17⟩] (.Name "text" ⟨6,20,6,24⟩) ⟨6,8,6,24⟩]
noncomputable abbrev Mm:Scope:={kind:=.function,names:=[("self",.local),("text",.local),("Exception",.globalImplicit)],isGenerator:=false,isCoroutine:=false}
noncomputable abbrev Mn:FuncData:=fnOf "__init__" "F77Error.__init__" ⟨[],[⟨"self",none,⟨4,17,4,21⟩⟩,⟨"text",none,⟨4,23,4,27⟩⟩],none,[],[],none,[]⟩ Ml Mm .none .none .none (.str "f77.errors" 187) none (.ref 27) .none
theorem Ac(a b:Value):bindArgs Mn ⟨[a,b],[]⟩=pure ([("self",a),("text",b)]:List (Str×Value)):=by kernel_rfl
structure Exc(X:Cx):Prop where
 own:X.K.lookup X.CF=some (JX X.CF)
 set:findIn X.K (.ref X.CF) "__setattr__"=some (some (.builtin "object.__setattr__"))
 Sx:takerIn X.K X.CF "text"=some none
 glob:nsIn X.K mainGlobals "CheckFault"=some (some (.ref X.CF))
 keep:keepIn X.K (.ref X.CF)=true
 look:findCls X.K (.type "Exception") (.type "type") "__init__"=some (.val (.builtin "Exception.__init__"))
 find:findIn X.K (.ref X.CF) "__init__"=some (some (.ref 28))
 ini:X.K.lookup 28=some ⟨.type "function",none,.func Mn,#[]⟩
 Sz:codeIn X.K (.ref 27) "F77Error.__init__"=true
section
variable{X:Cx}{A:Around}{h₀:Heap}{L:Addr}{m:Str->Option Value}{s:Shared}
theorem Dk{fa:Addr}{cd:Value}{e b:Addr}{v:Value}{Q:Flow->Shared->Prop}{E:Value->Shared->Prop}(F:Fr h₀ L s.heap m)(X₀:X.K.In h₀)(T:Top X.p X.loose X.mean X.mg X.mb h₀)
  (KO:fY X) (EX:Exc X) (hm1:m "self"=some (.ref e)) (hm2:m "text"=some v) (he:s.heap.get? e=some {cls:=.ref X.CF,data:=.fields #[.ref b,.none,.none,.none,.bool false,.none]}) (hL:e≠L) (hn:h₀.get? e=none)
  (h:∀h' tk d a0,Fr h₀ L h' m->h'.get? e=some ⟨.ref X.CF,some d,.fields #[.ref a0,.none,.none,.none,.bool false,.none],#[]⟩->Q .next {s with heap:=h',toks:=tk}):
  wpAny X.M A (execs Ml (envOf "F77Error.__init__" Mm L fa cd)) Q E s:=by
 obtain⟨hh,gs,d,tks,os⟩:=s;refine wpAny_execs_cons (wpAny_Expr_any ?_ rfl);refine ya rfl rfl rfl (by decide) ?_
 refine name_B F X₀ (topRead_of T) (KO.bi "Exception" (by decide)) PyProof.Rows.Boot.«Exception» (by decide) ?_ rfl rfl rfl
 refine method_type F X₀ rfl (by decide+kernel) EX.look rfl ?_
 refine PyProof.Rows.callWith_method1 (first:=[]) ?_ (aE rfl) rfl
 rw[aE rfl,aE rfl];refine AS (ld F hm1 ?_ rfl rfl rfl);refine AS (ld F hm2 (wpAny_pure ?_) rfl rfl rfl);refine wpAny_call (Gh ((X₀.keeps F.keep) _ _ EX.own) he λfu hfu=>?_);have F1:=(F.push {cls:=.type "tuple",data:=.seq [v].toArray}).change (Heap.SameBut.update _ e fu) hL hn;have he1:=Heap.get?_update_self fu (Heap.get?_push_of_some {cls:=.type "tuple",data:=.seq [v].toArray} he) (by rw[hfu];rfl)
 rw[hfu]at he1;refine wpAny_execs_cons (plainObj_wpAny_Assign_Attribute ?_ (i9 rfl));refine ld F1 hm2 (ld F1 hm1 ?_ rfl rfl rfl) rfl rfl rfl;refine Dj F1 X₀ he1 hL hn EX.own EX.set EX.Sx λh' d' tk F' g'=>?_;exact wpAny_execs_nil (h h' tk d' _ F' g')
end
section
variable{X:Cx}{f:Fm}{m:Str->Option Value}{γ:Ga}{g:G}{s:Shared}{n:Nat}
theorem Dn(KO:fY X)(EX:Exc X)(O:bB X f (n+1))(Z:aO X f m γ g s.heap){t:Str}{tk:Tok}{Q:Value->Shared->Prop}{E:Value->Shared->Prop}
  (h:∀h' e b tk' d,Fr f.h₀ f.L h' m->f.h₀.get? e=none->h'.get? e=some ⟨.ref X.CF,some d,.fields #[.ref b,.none,.none,.none,.bool false,.none],#[]⟩->Q (.ref e) {s with heap:=h',toks:=tk'}):wpAny X.M f.A (call (.ref X.CF) [.str t tk]) Q E s:=by
 obtain⟨hh,gs,d,tks,os⟩:=s;have X0:=O.X₀.keeps Z.F.keep;refine wpAny_call (Gg X0 (X0 _ _ EX.own) EX.find (congrArg (Option.map λx:Obj=>x.cls) EX.ini) ?_);have F1:=(Z.F.push {cls:=.type "tuple",data:=.seq [Value.str t tk].toArray}).push {cls:=.ref X.CF,data:=.fields #[.ref hh.objs.size,.none,.none,.none,.bool false,.none]};have N1:News f.h₀ f.L ((hh.push {cls:=.type "tuple",data:=.seq [Value.str t tk].toArray}).push {cls:=.ref X.CF,data:=.fields #[.ref hh.objs.size,.none,.none,.none,.bool false,.none]})
   [(hh.objs.size+1,{cls:=.ref X.CF,data:=.fields #[.ref hh.objs.size,.none,.none,.none,.bool false,.none]})]:=by
  have:=News.push (Z.F.push {cls:=.type "tuple",data:=.seq [Value.str t tk].toArray}) News.nil {cls:=.ref X.CF,data:=.fields #[.ref hh.objs.size,.none,.none,.none,.bool false,.none]};rwa [Heap.size_push]at this
 refine code_def O.B F1 O.X₀ N1 O.T ((m6 _ _ _).trans O.fr) rfl O.kind EX.ini EX.Sz (QT O.dp) (BindsTo.of_eq (Ac _ _)) ?_ (λg₀ L' h₁ FG F' N' B' X' T'=>?_) rfl rfl rfl (by decide)
 ·exact locs rfl
 obtain⟨q1,q2,q3⟩:=N' _ (.head _);refine Dk F' X' T' KO EX rfl rfl q1 q2 q3 λh' tk' d' a0 F2 g2=>?_;refine leaveK_ F2 (News.more F2 News.nil g2 (λes n q=>by cases q) q3) λF0 N0=>?_
 exact⟨rfl,h h' _ a0 _ d' F0 (N0 _ (.head _)).2.2 g2⟩
theorem Ad{M:Model}{A:Around}{E:Value->Shared->Prop}{s:Shared}{C:Addr}{env:Env}{x:Sem Value}{Q:Flow->Shared->Prop}(hh:A.handled=none)
  (h:wpAny M A x (λv s₁=>∃e t d,v=.ref e/\s₁.heap.get? C=some (JX C)/\
   s₁.heap.get? e=some ⟨.ref C,some d,.fields #[.ref t,.none,.none,.none,.bool false,.none],#[]⟩/\E (.ref e) s₁) E s):
  wpAny M A (raiseStmt env (some x) none) Q E s:=by
 have hcB:(Value.ref C::Value.ref 31::dK).contains (.type "BaseException")=true:=lF.trans (by decide+kernel)
 unfold raiseStmt;refine wpAny_bind (wpAny_mono h (λv s₁ h₁=>?_) λ_ _ x=>x);obtain⟨e,t,d',rfl,hC,he,hE⟩:=h₁;obtain⟨hp,g,d,tk,os⟩:=s₁;repeat(first|with_reducible refine wpAny_loadPart_at he ?_|with_reducible refine wpAny_loadPart_at hC ?_|(with_reducible refine wpAny_isSubtype_exc hC ?_;rw[hcB])|wp_step)
 exact wpAny_raiseNew_none hh hE
theorem Ae(KO:fY X)(EX:Exc X){t:S}{y:Str}{ts:Str}{np cp pos p1:Pos}{kk:Nat}(O:bB X f (n+1))(hy:y="CheckFault")(hg:b7 f.scope y=true)(ht:toS t=ts)(Z:aO X f m γ g s.heap):
  g9 X f R.ex (exec (.Raise (some (.Call (.Name y np) [.Constant (.str ts) kk p1] [] cp)) none pos) f.env) γ s:=by
 subst hy;intro Φ Ψ Q E hA hE hQ;rw[arm_exec_Raise];refine wpAny_bind (wpAny_standAt ?_);show wpAny _ _ (raiseStmt _ (some _) none) _ _ _;refine Ad (C:=X.CF) O.hh (wpAny_bind (wpAny_mono (Call_Name rfl (nameX_K Z.F O.X₀ (topRead_of O.T) EX.glob ?_ O.kind (fD hg).1 (fD hg).2)) (λv s₃ h₃=>wpAny_bind (wpAny_standAt (wpAny_pure h₃))) λ_ _ x=>x));refine callWith_K (O.X₀) EX.keep ?_ (aE rfl) (by rfl)
 rw[aE rfl];refine AS (wpAny_Constant_str (k:=kk) (pos:=p1) (wpAny_pure ⟨O.X₀.keeps Z.F.keep,?_⟩));exact Dn (s:={s with toks:=s.toks+1}) KO EX O Z λh' e b tk' d F' hn he=>⟨e,b,d,rfl,(O.X₀.keeps F'.keep) _ _ EX.own,he,hE.made hA m e h' tk' F' ⟨hn,_,_,_,he,rfl,rfl,rfl,rfl⟩⟩
end
end Mine
namespace Mine
open PySem PySem.W PySem.Calls PyProof.Rows
section
variable{X:Cx}{f:Fm}{m:Str->Option Value}{γ:Ga}{g:G}{s:Shared}{n:Nat}{l:Loc}{k:Nat}
theorem J0{f':Fs}{b:List MS}{pb:List Stmt}{h0:ExceptHandler}{pos:Pos}(H:SS X n f'.s)(O:bB X f n)(c:BY (gv X.K X.C f.scope k) b pb=true)(Z:aO X f m γ g s.heap)(hl:X.Ls f γ m l):
  g9 X f ((blk f' l g b).tr .st) (exec (.Try pb [h0] [] [] pos) f.env) γ s:=by
 intro Φ Ψ Q E hA hE hQ;refine wpAny_Try_except ?_;refine lE H O c Z hl Φ False _ _ (R.All.tr.mp hA) ⟨PassesOwn.looking,λz=>z.elim,λz=>z.elim⟩ λx g' γ' b' h' tk m' p e Z' r=>?_;cases b' with
 |next=>exact wpAny_execs_nil (hQ x g' γ' .next h' tk m' p e Z' r)
 |_=>exact hQ x g' γ' _ h' tk m' p e Z' r
noncomputable def dR(x:Fl)(_:G):Prop:=x=.ret (.bool true)
noncomputable def vY(X:Cx)(f:Fm)(t:R Fl)(sem:Sem Flow)(s:Shared):Prop:=
 ∀(Q:Flow->Shared->Prop)(E:Value->Shared->Prop),t.All dR False->PassesOwn X.M f.A f.env E->
  (∀h' tk m',Fr f.h₀ f.L h' m'->Q (.ret (.bool true)) {s with heap:=h',toks:=tk})->wpAny X.M f.A sem Q E s
theorem Q8{E:Value->Shared->Prop}{s:Shared}(h:PassesOwn X.M f.A f.env E):lQ X f E False s:=⟨h,λz=>z.elim,λz=>z.elim⟩
theorem Gi:vY X f (.ok (.next l) g) (execs [] f.env) s:=λQ E hA _ _=>by cases hA
set_option tactic.hygienic true in
theorem Gj{fl:Flow}{v:V}(Z:aO X f m γ g s.heap)(r:BD X f m γ fl (.ret v))(hA:dR (.ret v) g){Q:Flow->Shared->Prop}(hQ:∀h' tk m',Fr f.h₀ f.L h' m'->Q (.ret (.bool true)) {s with heap:=h',toks:=tk}):Q fl s:=by
 cases hA;cases fl<;>first|(cases r;done)|skip
 rename_i u;have r:X.RV γ u (.bool true):=r;cases r;exact hQ s.heap s.toks m Z.F
theorem uq{f':Fs}{c:MS}{b:List MS}{p:Stmt}{ps:List Stmt}(h1:g9 X f (f'.s l g c) (exec p f.env) γ s)
  (h2:∀g1 γ1 h1 tk1 m1 l1,aO X f m1 γ1 g1 h1->X.Ls f γ1 m1 l1->vY X f (blk f' l1 g1 b) (execs ps f.env) {s with heap:=h1,toks:=tk1}):vY X f (blk f' l g (c::b)) (execs (p::ps) f.env) s:=by
 intro Q E hA hE hQ;refine wpAny_execs_cons (h1 _ False _ E (R.All.bind.mp hA) (Q8 hE) λx g1 γ1 fl h1 tk1 m1 hA1 e1 Z1 r1=>?_);cases x with
 |next l1=>
  cases fl<;>first|(cases r1;done)|skip
  exact h2 g1 γ1 h1 tk1 m1 l1 Z1 r1 Q E hA1 hE λh' tk m' F'=>hQ h' tk m' F'
 |cont l1=>cases hA1
 |ret v=>
  have:=Gj (s:={s with heap:=h1,toks:=tk1}) (Q:=λfl s'=>match fl with| .next=>False|f=>Q f s') Z1 r1 hA1 (λh' tk m' F'=>hQ h' tk m' F')
  cases fl<;>first|exact this|exact this.elim
theorem qU{f':Fs}(H:SS X n f'.s)(O:bB X f n){b b2:List MS}{ps ps2:List Stmt}(hc:BY (gv X.K X.C f.scope k) b ps=true)(Z:aO X f m γ g s.heap)(hl:X.Ls f γ m l)
  (h2:∀s1 g1 γ1 m1 l1,aO X f m1 γ1 g1 s1.heap->X.Ls f γ1 m1 l1->vY X f (blk f' l1 g1 b2) (execs ps2 f.env) s1):vY X f (blk f' l g (b++b2)) (execs (ps++ps2) f.env) s:=by
 induction b generalizing ps l g γ s m with
 |nil=>
  cases ps with
  |nil=>exact h2 s g γ m l Z hl
  |cons _ _=>exact ff hc
 |cons c b ih=>
  cases ps with
  |nil=>exact ff hc
  |cons p ps=>exact uq (H f m l g γ s k c p O (aj hc) Z hl) λg1 γ1 h1 tk1 m1 l1 Z1 hl1=>ih (s:={s with heap:=h1,toks:=tk1}) (ak hc) Z1 hl1
theorem Nz{x e0 y:Nat}{f3:Fs}{C:Cfg}{l:Loc}{k:Loc->G->R Fl} (h:(match Nat.beq x e0 with
   |true=>blk (step C (step C (step C f3))) (clean l) ⟨[],0,[]⟩ [.ret (some (.not (.loc y)))]
   |false=>.st:R Fl).All (λ(a:Fl) g=>(match a with
    | .next l=>k l g
    |x=>R.ok x g).All dR False) False):aT l y=some (.bool false):=by
 cases e:Nat.beq x e0 with
 |false=>rw[e]at h;exact h.elim
 |true=>
  rw[e]at h;have h:((((((opt (aT (clean l) y) ⟨[],0,[]⟩).bind λv g=>opt (truthy g v) g).bind λb g=>.ok (.bool (!b)) g).bind λv g=>.ok (Fl.ret v) g).bind λx g=>match x with
   | .next l=>blk (step C (step C (step C f3))) l g []
   |x=>.ok x g:R Fl)).All (λ(a:Fl) g=>(match a with
   | .next l=>k l g
   |x=>R.ok x g).All dR False) False:=h
  rw[Bk]at h;cases q:aT l y with
  |none=>rw[q]at h;exact h.elim
  |some v=>
   rw[q]at h;cases v with
   |bool b=>
    cases b with
    |false=>rfl
    |true=>exact nomatch (show dR (.ret (.bool false)) ⟨[],0,[]⟩from h)
   |_=>exact h.elim
theorem Gl{y:Nat}{b:Bool}{v:Str}(O:bB X f n)(hl:X.Ls f γ m l)(h:aT l y=some (.bool b))(hy:nm y=v)(hv:eu f.scope v=true):m v=some (.bool b):=by obtain⟨u,hu,r⟩:=hl y _ h;cases r;exact hy▸hu.1 (O.kl _ (hy▸(eG hv).1))
theorem NB(EX:Exc X)(O:bB X f n)(hb:f.base=f.h₀){e a0:_}{g₂:Heap}{h':Heap}{tk:Nat}{y:Nat}{bb:Bool}{v:Str}{np vp up rp hp:Pos}{Q:Flow->Shared->Prop}{E:Value->Shared->Prop}(hg:b7 f.scope "CheckFault"=true)(hy:nm y=v)(hv:eu f.scope v=true)(hm:m v=some (.bool bb))
  (F:Fr f.h₀ f.L g₂ m) (hsm:g₂.UpToSlots h') (hfl:Heap.FlyingW f.base (f.env::f.outer) e (.ref X.CF) a0 h')
  (hQ:∀h'' tk m',Fr f.h₀ f.L h'' m'->Q (.ret (.bool !bb)) {s with heap:=h'',toks:=tk}):
  wpAny X.M f.A (noteFrame (.ref e) f.env) (λ_ s₂=>wpAny X.M f.A (setFlight (.ref e) none) (λ_ s₃=>wpAny X.M f.A (handleBy (.ref e) f.env
   [.ExceptHandler (some (.Name "CheckFault" np)) none [.Return (some (.UnaryOp .Not (.Name v vp) up)) rp] hp]) Q E s₃) E s₂) E {s with heap:=h',toks:=tk}:=by
 rw[hb]at hfl;refine wpAny_looks_onW O.fr rfl hfl λh₄ hheld₄ hsm₄=>?_;refine wpAny_landsW hheld₄ λh₅ hheld hsm₅'=>?_;have hsm₅:=hsm₄.trans hsm₅';have F₅:=F.of_stays hheld.1 (hsm.trans hsm₅);obtain⟨ob,hob,hobc⟩:=hheld.there;refine wpAny_handleBy_cons (codeAny_handlers_test (nameX_K F₅ O.X₀ (topRead_of O.T) EX.glob ?_ O.kind (fD hg).1 (fD hg).2)) (by intro q;cases q)
 refine wpAny_excMatches_sub_self ((O.X₀.keeps F₅.keep) _ _ EX.own) hob hobc (show dK.contains (.type "BaseException")=true from by decide+kernel) (codeAny_handlers_suite ?_)
 refine lands_againW hheld λh₆ hfl₆ hsm₆=>?_;have F₆:=F.of_stays hfl₆.1 ((hsm.trans hsm₅).trans hsm₆);refine wpAny_noRaise ?_;refine wpAny_execs_cons (wpAny_Return_some (UnaryOp_ (nameX_L F₆ hm ?_ O.kind (eG hv).1 (eG hv).2)));exact not_of (wpAny_truthy_bool (hQ _ _ _ F₆))
theorem Gm(EX:Exc X){f0 f4:Fs}{C:Cfg}{rest:List MS}{ps:List Stmt}{z y x:Nat}{zy v fy:Str}{e:ME}{p:Expr}{zp ap np vp up rp hp pos:Pos}(H:SE X n (step C (step C f4)).e)(O:bB X f n)(hb:f.base=f.h₀)
  (hfy:fy="CheckFault") (hg:b7 f.scope fy=true) (hy:nm y=v) (hv:eu f.scope v=true) (hz:nm z=zy) (hzl:eu f.scope zy=true) (hn:eS p=true) (hc:iN X.K X.C f.scope k e p=true)
  (Z:aO X f m γ g s.heap) (hl:X.Ls f γ m l)
  (h2:∀g1 γ1 h1 tk1 m1 l1,aO X f m1 γ1 g1 h1->X.Ls f γ1 m1 l1->vY X f (blk f0 l1 g1 rest) (execs ps f.env) {s with heap:=h1,toks:=tk1}):
  vY X f (((blk (step C (step C (step C f4))) l g [.asg z e]).tr (match Nat.beq x C.exc with
   |true=>blk (step C (step C (step C f4))) (clean l) ⟨[],0,[]⟩ [.ret (some (.not (.loc y)))]
   |false=>.st)).bind λx g=>match x with
    | .next l=>blk f0 l g rest
    |x=>.ok x g) (execs (.Try [.Assign [.Name zy zp] p ap] [.ExceptHandler (some (.Name fy np)) none [.Return (some (.UnaryOp .Not (.Name v vp) up)) rp] hp] [] [] pos::ps) f.env) s:=by
 subst hfy;intro Q E hA hE hQ;have hA1:=R.All.tr.mp (R.All.bind.mp hA);refine wpAny_execs_cons (wpAny_Try_except ?_);refine wpAny_execs_cons (wpAny_Assign_Name ?_ (i9 hn));have hA2:=R.All.bind.mp (R.All.bind.mp hA1);refine H f m l g γ s k e p O hc Z hl _ _ _ _ hA2 ⟨PassesOwn.looking,λpp e a0 g₂ h' tk F hsm hfl=>?_⟩ λu g1 γ1 w h1 tk1 hA3 e1 Z1 r1=>?_
 ·exact NB (s:=s) EX O hb hg hy hv (Gl O hl (Nz pp) hy hv) F hsm hfl hQ
 ·refine aO.set (s:={s with heap:=h1,toks:=tk1}) Z1 (hl.ext e1) O hz hzl r1 λh' m' Z' hl'=>?_
  exact wpAny_execs_nil (wpAny_execs_nil (h2 g1 γ1 h' _ m' _ Z' hl' Q E hA3 hE λh' tk m' F'=>hQ h' tk m' F'))
end
theorem m7{scope:Scope}{env:Env}(h:∀y∈scope.names,y.2≠.free):closureFor scope env=pure []:=by
 have key:∀(l:List (Str×NameKind))(cs:List (Str×Addr)),(∀y∈l,y.2≠.free)->(forIn l cs (λ(x:Str×NameKind) (cs:List (Str×Addr))=>match x with
   |(name,kind)=>if(kind==NameKind.free)=true then(cellOf env name>>=λc=>pure (ForInStep.yield ((name,c)::cs)))else pure (ForInStep.yield cs)):Sem (List (Str×Addr)))=pure cs:=by
  intro l;induction l with
  |nil=>intro cs _;rfl
  |cons y l ih=>
   intro cs hl;obtain⟨a,b⟩:=y;have hb:(b==NameKind.free)=false:=by have:=hl (a,b) (.head _);cases b<;>first|rfl|exact absurd rfl this
   rw[List.forIn_cons];simp only[hb];exact ih cs λy hy=>hl y (.tail _ hy)
 show(forIn scope.names [] _>>=pure)=pure [];exact(congrArg (·>>=pure) (key scope.names [] h)).trans rfl
theorem jO{sc:Scope}{b:Str}(h:TF sc b=true):(∀y∈sc.names,y.2≠.free)/\(∀y∈sc.names,y.2≠.cell)/\sc.kind=.function/\(∀y∈sc.names,y.2=.local->sc.names.lookup y.1=some .local)/\sc.names.lookup b=some .local/\(b==("__debug__":Str))=false:=by
 unfold TF at h;simp only[Bool.and_eq_true,List.all_eq_true,bne_iff_ne,Bool.or_eq_true,beq_iff_eq]at h;obtain⟨⟨⟨h1,h2⟩,h3⟩,h4⟩:=h;refine⟨λy hy=>(h1 y hy).1.2,λy hy=>(h1 y hy).1.1,h2,λy hy e=>?_,h3,by simpa using h4⟩
 rcases(h1 y hy).2 with q|q
 ·exact absurd e q
 ·exact q
section
variable{X:Cx}{f:Fm}{m:Str->Option Value}{γ:Ga}{g:G}{s:Shared}{n:Nat}{l:Loc}{k:Nat}
theorem Gn{env:Env}{pos:Pos}{A:Around}{M:Model}{E:Value->Shared->Prop}{cs:List S}:∀{ts:List Expr}{s:Shared}{Q:List Value->Shared->Prop},mW cs ts=true->
  (∀us tk,X.cH γ us (cs.map .str)->Q us {s with toks:=tk})->wpAny M A (spliced (backTo pos (starEach ts env))) Q E s:=by
 induction cs with
 |nil=>exactλ{ts s Q} c h=>match ts,c with
  |[],_=>wpAny_pure (h [] s.toks .nil)
  |_::_,c=>ff c
 |cons x cs ih=>exactλ{ts s Q} c h=>match ts,c with
  |[],c=>ff c
  |t::ts,c=>by have c1:=aj c;refine cO (x:=t) (aj c1) λcst kk p h1=>kB (x:=cst) h1 λw h1=>?_;obtain rfl:=eq_of_beq h1;rw[aE rfl];exact AS (wpAny_Constant_str (k:=kk) (pos:=p) (ih (s:={s with toks:=s.toks+1}) (ak c) λus tk r=>h _ tk (.cons (.str x _ (ak c1)) r)))
theorem ur(a b:S):As a b=As b a:=by
 cases h:As a b with
 |true=>rw[cY.mp h,iC]
 |false=>
  cases q:As b a with
  |false=>rfl
  |true=>rw[cY.mp q,iC]at h;cases h
theorem uu(x:S):∀(cs:List S),vin (.str x) (cs.map .str)=some (cs.any (As x))
 |[]=>rfl
 |c::cs=>by
  show(match veq (.str c) (.str x)with|some true=>some true|some false=>vin (.str x) (cs.map .str)|none=>none)=_
  have:veq (.str c) (.str x)=some (As x c):=by rw[ur];rfl
  rw[this,List.any_cons];cases As x c with
  |true=>rfl
  |false=>exact uu x cs
theorem lG(x:S)(cs:List S):din (.str x) (cs.map .str)=some (cs.any (As x)):=by
 have:(cs.map V.str).all (vok 8)=true:=by rw[List.all_map];exact List.all_eq_true.mpr λ_ _=>rfl
 refine(?_:grd (vok 8 (.str x)&&(cs.map V.str).all (vok 8)) (vin (.str x) (cs.map .str))=_);rw[this];exact uu x cs
open LCg LCt in
theorem uw(O:bB X f n)(gk:X.gq γ g){s:Shared}{a c:Str}{cp tp ip ap:Pos}{ts:List Expr}{kk:Nat}{cs:List S}{scope:Scope}{S':List (Addr×Obj)->Prop}{Fin:List Value->List (Addr×Obj)->Prop}{ws:List Value}
  (hc:TF scope a=true) (hca:c=a) (hcs:mW cs ts=true) (hlen:cs.length<=100) (hS:S' γ.news) (hb:behindInMarks .In (.Tuple ts kk tp)=false):
  ∀(us:List Value)(ss:List S)(pre ys:List Value)(acc:List S),ws=pre++us->X.cH γ us (ss.map .str)->X.cH γ ys (acc.map .str)->
   (∀ys,X.cH γ ys ((acc++ss.filter λs=>cs.any (As s)).map .str)->Fin ys γ.news)->
   CompRestT X.prog X.w f.A f.h₀ f.L m f.env (.Compare (.Name c cp) [.In] [.Tuple ts kk tp] ip) (.Name a ap) a scope [] s S' (λi v=>ws.toArray[i]?=some v) Fin us.length pre.length ys γ.news
 |[],ss,pre,ys,acc,hw,hus,hys,hF=>by
  cases ss with
  |cons _ _=>cases hus
  |nil=>exact hF ys (by simpa using hys)
 |u::us,[],pre,ys,acc,hw,hus,hys,hF=>by cases hus
 |u::us,x::ss,pre,ys,acc,hw,hus,hys,hF=>by
  subst hca;obtain⟨c1,c2,c3,c4,c5,c6⟩:=jO hc;cases hus with
  |cons hu hus=>
   have ih:=λys' acc' h1 h2=>uw O gk (s:=s) (ws:=ws) (tp:=tp) (kk:=kk) (S':=S') (cp:=cp) (ip:=ip) (ap:=ap) (Fin:=Fin) hc rfl hcs hlen hS hb us ss (pre++[u]) ys' acc' (by rw[hw];simp) hus h1 h2
   show CompRestT _ _ _ _ _ _ _ _ _ _ _ _ _ _ _ _ (us.length+1) _ _ _;intro v I oI C oC D m₂ h tk E' hP hoC hx F N off hne;have hv:v=u:=by have hP:ws.toArray[pre.length]?=some v:=hP;rw[hw]at hP;simpa using hP.symm
   subst hv;have hkd:(compEnvC scope [] C f.env).scope.kind=.function:=by simp [compEnvC,relabel,c3]
   have hkl:(compEnvC scope [] C f.env).kindOf c=some .local:=lookup_relabel_local c5;have Z:aO X f m γ g h:=⟨F,λp hp=>N p (.tail _ (.tail _ (.tail _ hp))),gk⟩;refine wpAny_isTrue_Compare1 ?_ hb;refine LCgL.ld_own N (.tail _ (.head _)) hoC hx ?_ hkd hkl c6;refine Tuple_ (Gn (X:=X) (γ:=γ) hcs λvs tk' rv=>?_);have hl:vs.length=cs.length:=by have:=rv.length;simpa using this
   refine newTuple_N (s:={s with heap:=h,toks:=tk'}) F N (λh' F' N'=>?_) (cZ (Jb hl hlen rfl))
   have Z':aO X f m γ g h':=⟨F',λp hp=>N' p (.tail _ (.tail _ (.tail _ (.tail _ hp)))),gk⟩;have hit:IsTup h' h.objs.size vs.toArray:=⟨_,(N' _ (.head _)).1,rfl,_,rfl⟩;refine(Bx (s:={s with heap:=h',toks:=tk'}) Z' O hit rv hu (lG x cs)).1 _ _ λtk2=>wpAny_truthy_bool ?_
   cases e:cs.any (As x)with
   |true=>
    rw[if_pos rfl];refine LCgL.ld_own N' (.tail _ (.tail _ (.head _))) hoC hx ?_ hkd hkl c6;refine CompEnd.intro (s₁:={s with heap:=h,toks:=tk}) F' N' γ.news (λp hp=>.tail _ hp) off hS ?_
    rw[<- List.length_singleton (a:=v),<- List.length_append];exact ih (ys++[v]) (acc++[x]) (by rw[List.map_append];exact hys.append (.cons hu .nil)) λys' h'=>hF ys' (by rw[List.filter_cons,e,if_pos rfl];simpa using h')
   |false=>
    rw[if_neg (by decide)]
    refine CompEnd.intro (s₁:={s with heap:=h,toks:=tk}) F' N' γ.news (λp hp=>.tail _ hp) off hS ?_
    rw[<- List.length_singleton (a:=v),<- List.length_append];exact ih ys acc hys λys' h'=>hF ys' (by rw[List.filter_cons,e,if_neg (by decide)];exact h')
theorem Af{l:List V}:∀{ss:List S},Tz l=some ss->l=ss.map .str:=by
 induction l with
 |nil=>exactλh=>Option.some.inj h▸rfl
 |cons v l ih=>
  intro ss h;cases v with
  |str x=>
   obtain⟨r,hr,rfl⟩:=Option.map_eq_some_iff.mp (show(Tz l).map (x::·)=some ss from h)
   rw[ih hr];rfl
  |_=>exact aL h
theorem yy{D:Addr}:∀{l:List (Addr×Obj)},LCg.Off1 D l->D∉l.map (·.1)
 |[],_,h=>by cases h
 |p::r,x,h=>by
  rcases List.mem_cons.mp h with e|e
  ·exact x.1 e.symm
  ·exact yy x.2 e
inductive Q9(X:Cx)(f:Fm)(γ:Ga)(u:Value)(l:List V):Prop
 |mk (d:Addr) (vs:List Value) (e:u=.ref d) (r:X.cH γ vs l) (z:l.length<=1000000) (h:f.h₀.IsList d vs.toArray\/∃k,(d,listOf vs.toArray k)∈γ.news)
theorem NC(Z:aO X f m γ g s.heap)(O:bB X f n){u:Value}{a:V}{l:List V}(r:X.RV γ u a)(h:SY g a=some l):Q9 X f γ u l:=by
 cases a with
 |lst l'=>obtain rfl:=Option.some.inj h;obtain⟨_,_,_,rfl,ha,hr,hz⟩:=r.lst_inv;exact⟨_,_,rfl,hr,hz,ha.elim (λh=>.inr ⟨_,h.1⟩) λh=>.inl ⟨_,O.X₀ _ _ h,rfl,_,rfl⟩⟩
 |ref i=>
  obtain⟨_,rfl,hr⟩:=r.fC;have h:(match g.get i with| .list l=>some l|_=>none)=some l:=h
  cases hg:g.get i with
  |list l'=>rw[hg]at h;obtain rfl:=Option.some.inj h;obtain⟨d,its,nn,r,hm,hrs,hz⟩:=dG Z hg;obtain rfl:=Option.some.inj (hr.symm.trans r);exact⟨_,its,rfl,hrs,Nat.le_trans (Nat.le_add_right _ _) hz,.inr ⟨_,hm⟩⟩
  |_=>rw[hg]at h;exact aL h
 |_=>exact aL h
set_option tactic.hygienic true in
theorem Gq{f':Fs}{it:ME}{cs:List S}{a b c hn:Str}{ap bp hp cp tp ip pos:Pos}{ts:List Expr}{kk:Nat}{lsc:Scope}(H:SE X n f'.e)(O:bB X f n)
  (h0:(((((a==b)&&(c==b))&&mW cs ts)&&Nat.ble cs.length 100)&&TF lsc b)=true) (h6':(!behindInMarks .In (.Tuple ts kk tp))=true) (h7:iN X.K X.C f.scope k it (.Name hn hp)=true) (Z:aO X f m γ g s.heap) (hl:X.Ls f γ m l):
  dh X f m (λγ' b a=>X.RV γ' b a) ((f'.e l g it).bind λv g=>match(SY g v).bind Tz with
  |some ss=>.ok (.lst ((ss.filter λs=>cs.any (As s)).map .str)) g
  |none=>.st) (eval (.ListComp (.Name a ap) [⟨.Name b bp,.Name hn hp,[.Compare (.Name c cp) [.In] [.Tuple ts kk tp] ip],0⟩] lsc pos) f.env) γ s:=by
 obtain rfl:=eq_of_beq (aj (aj (aj (aj h0))));obtain rfl:=eq_of_beq (ak (aj (aj (aj h0))));have h3:=ak (aj (aj h0));have h4:=Nat.le_of_ble_eq_true (ak (aj h0));have h5:=ak h0;have h6:=(Bool.not_eq_true' _).mp h6';clear h0 h6';intro Φ Ψ Q E hA hE hQ;obtain⟨c1,c2,c3,c4,c5,c6⟩:=jO h5;refine LCt.ListComp_T Z.F (m7 c1) c2 c3 c4 c5 ?_;refine H f m l g γ s k it _ O h7 Z hl _ Ψ _ E (R.All.bind.mp hA) hE λv g1 γ1 u hp1 tk1 hA1 e1 Z1 r1=>?_;split at hA1
 ·rename_i ss hss;obtain⟨vs,hvs,hst⟩:=Option.bind_eq_some_iff.mp hss;have hmap:=Af hst;obtain⟨d,us,rfl,rs,hz,hsrc⟩:=NC (s:={s with heap:=hp1,toks:=tk1}) Z1 O r1 hvs
  have hlen:=rs.length;have rest:∀(S':List (Addr×Obj)->Prop)(gg:Heap),S' γ1.news->LCt.CompRestT X.prog X.w f.A f.h₀ f.L m f.env (.Compare (.Name c cp) [.In] [.Tuple ts kk tp] ip) (.Name c ap) c lsc [] {s with heap:=gg,toks:=tk1} S' (λi v=>us.toArray[i]?=some v) (LCg.FinE f.h₀ f.L m {s with heap:=gg,toks:=tk1} Q) us.toArray.size 0 [] γ1.news:=by
   intro S' gg hS;refine uw O Z1.gk h5 rfl h3 h4 hS h6 us ss [] [] [] rfl (hmap▸rs) .nil λys rys=>?_;intro D h' tk' F' N' off;have hk:=yy off;have hly:=rys.length;have hfl:=List.length_filter_le (λs=>cs.any (As s)) ss;have hss2:ss.length=vs.length:=by rw[hmap,List.length_map]
   refine hQ _ g1 (γ1.push D (listOf ys.toArray ys.length)) _ h' tk' hA1 (e1.trans (Ext.push Z1.gk)) ⟨F',N',gq.BG Z1.gk hk⟩ (.lst (At.BG Z1.gk hk) ?_ ?_)
   ·have:=rys.ext (Ext.push Z1.gk (a:=D) (o:=listOf ys.toArray ys.length));simpa using this
   ·simp only[List.length_map]at *;omega
  have hsz:us.toArray.size<=sizeLine:=cZ (by rw[List.size_toArray];omega)
  rcases hsrc with q|⟨kq,q⟩
  ·exact LCt.CompSrcT.base (s₁:={s with heap:=hp1,toks:=tk1}) O.hh Z1.F Z1.N q hsz λgg=>rest _ gg (.inl q)
  ·exact LCt.CompSrcT.ledger (s₁:={s with heap:=hp1,toks:=tk1}) O.hh Z1.F Z1.N q hsz λgg=>rest _ gg (.inr ⟨_,q,rfl,_,rfl⟩)
 ·exact hA1.elim
end
section
variable{X:Cx}{f:Fm}{m:Str->Option Value}{γ:Ga}{g:G}{s:Shared}{n:Nat}{l:Loc}{k:Nat}
structure ND(X:Cx)(n:Nat)(f':Fs):Prop where
 e:SE X n f'.e
 t:I3 X n f'
 s:SS X n f'.s
 w:SW X n f'.s
 c:SC X n f'.c
theorem yz(KO:fY X)(h:ND X n (fs X.C n)):SE X (n+1) (UI X.C (fs X.C n)):=by
 intro f m l g γ s k me pe O c Z hl;have O':=O.low (Nat.le_succ n);cases k with
 |zero=>exact ff c
 |succ k=>
  replace c:E9 X.K X.C f.scope (iN X.K X.C f.scope k) me pe=true:=c;cases me with
  |none=>exact cO (x:=pe) c λc _ _ h1=>E4 (x:=c) h1 (Fy Z)
  |bool b=>exact cO (x:=pe) c λc _ _ h1=>E5 (x:=c) h1 (CW Z)
  |int i=>exact cO (x:=pe) c λc _ _ h1=>Bo (x:=c) h1 (Fz Z)
  |str x=>exact cO (x:=pe) c λc _ _ h1=>kB (x:=c) h1 λt h1=>z0 (b:=t) (aj h1) (FA (ak h1) Z)
  |loc x=>exact bI (x:=pe) c λy _ h1=>Jq O' Z hl (eq_of_beq (aj h1)) (ak h1)
  |glob x=>exact bI (x:=pe) c λy _ h1=>Fb KO O' Z (eq_of_beq (aj h1)) (ak h1)
  |tup es=>exact gX (x:=pe) c λ_ _ _ h1=>Jr h.e O' h1 Z hl
  |lst p es=>exact ow (x:=pe) c λ_ _ h1=>Jt h.e O' h1 Z hl
  |dict p es=>
   refine oz (x:=pe) c λks ps _ h1=>?_;have c1:=aj (aj (aj (aj h1)));have c2:=ak (aj (aj (aj h1)));have c3:=Nat.le_of_ble_eq_true (ak (aj (aj h1)));cases n with
   |succ n'=>exact x9 (f':=fs X.C n') KO O' c1 c2 c3 (ak (aj h1)) (ak h1) Z hl
   |zero=>cases es with
    |nil=>exact x9 (f':=fs X.C 0) KO O' c1 c2 c3 (ak (aj h1)) (ak h1) Z hl
    |cons p es=>exact dh.stop
  |attr e a=>exact jw (x:=pe) c λ_ _ _ h1=>Fe KO h.e O' (eq_of_beq (aj (aj (aj h1)))) (ak (aj (aj h1))) (ak (aj h1)) (ak h1) Z hl
  |sub e i=>exact ku (x:=pe) c λ_ _ _ h1=>Jv h.e O' (aj (aj h1)) (ak (aj h1)) (ak h1) Z hl
  |slice e lo hi=>exact ku (x:=pe) c λp q _ h1=>zY (x:=q) h1 λ_ _ st _ h2=>p9 (l:=st) (aj (aj (aj h2))) (CT rfl h.e O' (ak (aj (aj h2))) (ak (aj h2)) (ak h2) Z hl)
  |bin op a b=>exact mU (x:=pe) c λ_ _ _ _ h1=>Jw h.e O' (aj (aj h1)) (ak (aj h1)) (ak h1) Z hl
  |mul p a b=>refine mU (x:=pe) c λ_ o _ _ h1=>?_;obtain rfl:=CM (aj (aj h1));exact JO h.e O' (ak (aj h1)) (ak h1) Z hl
  |neg a=>refine mV (x:=pe) c λo _ _ h1=>?_;obtain rfl:=xJ (aj h1);exact Jx h.e O' (ak h1) Z hl
  |not a=>refine mV (x:=pe) c λo _ _ h1=>?_;obtain rfl:=xK (aj h1);exact Jy h.t O' h.e (ak h1) Z hl
  |and es=>refine jx (x:=pe) c λo _ _ h1=>?_;obtain rfl:=xM (aj h1);exact Bs h.e O' (ak h1) Z hl
  |or es=>refine jx (x:=pe) c λo _ _ h1=>?_;obtain rfl:=Bp (aj h1);exact Fo h.e O' (ak h1) Z hl
  |ite cc a b=>exact vG (x:=pe) c λ_ _ _ _ h1=>Jz h.t h.e O' (aj (aj h1)) (ak (aj h1)) (ak h1) Z hl
  |cmp op a b=>exact jy (x:=pe) c λp os qs _ h1=>dZ (l:=os) h1 λo h2=>dZ (l:=qs) h2 λq h3=>JE KO h.e O' (aj (aj (aj h3))) ((Bool.not_eq_true' _).mp (ak (aj (aj h3)))) (ak (aj h3)) (ak h3) Z hl
  |Bc o1 o2 a b cc=>exact jy (x:=pe) c λp os qs _ h1=>Uc (l:=os) h1 λq1 q2 h2=>Uc (l:=qs) h2 λr1 r2 h3=>Fw KO h.e O' (aj (aj (aj (aj (aj h3))))) (ak (aj (aj (aj (aj h3))))) ((Bool.not_eq_true' _).mp (ak (aj (aj (aj h3))))) (ak (aj (aj h3))) (ak (aj h3)) (ak h3) Z hl
  |call f' es=>exact iD (x:=pe) c λp ps w _ h1=>fz (l:=w) (aj (aj (aj (aj h1)))) (bI (x:=p) (ak (aj (aj (aj h1)))) (λ_ _ _ h4=>FL KO h.e h.c O' h4 (ak (aj h1)) Z hl) (ak (aj (aj h1))))
  |mcall o a es=>exact iD (x:=pe) c λp ps w cp h1=>fz (l:=w) (aj (aj (aj h1))) (jw (x:=p) (ak (aj (aj h1))) λp b ap h6=>C3 KO h.e h.c O' (eq_of_beq (aj (aj (aj (aj h6))))) (ak (aj (aj (aj h6)))) (ak (aj (aj h6))) (ak (aj h6)) (ak h6) (ak (aj h1)) (Nat.le_of_ble_eq_true (ak h1)) Z hl)
  |len e=>exact lA (e:=pe) c λ_ _ l _ h1 h2 h3=>dZ (l:=l) h3 λ_ h4=>JG KO h.e O' h1 h2 (ak h4) Z hl
  |abs e=>exact lA (e:=pe) c λ_ _ l _ h1 h2 h3=>dZ (l:=l) h3 λ_ h4=>JH KO h.e O' h1 h2 (ak h4) Z hl
  |list e=>exact lA (e:=pe) c λ_ _ l _ h1 h2 h3=>dZ (l:=l) h3 λ_ h4=>FD KO h.e O' h1 h2 (ak h4) Z hl
  |isi e mask=>exact lA (e:=pe) c λ_ _ l _ h1 h2 h3=>Uc (l:=l) h3 λ_ _ h4=>JN KO h.e O' h1 h2 (ak (aj h4)) (ak h4) Z hl
  |filt x it cs=>exact E8 (e:=pe) c λ_ _ _ _ _ _ _ _ _ _ _ _ _ _ h1 h2 h3=>Gq h.e O' h1 h2 h3 Z hl
  |facts=>exact ff c
  |any=>exact dh.stop
theorem Dp{t:R V}{pe:Expr}(O:bB X f n)(H:dh X f m (λγ' b a=>X.RV γ' b a) t (eval pe f.env) γ s)(he:isTrue pe f.env (eval pe f.env)=(do let v <- eval pe f.env;standAt pe.pos;holding [v] (PySem.truthy v))):
  dh X f m (λ_ b a=>b=a) (t.bind λv g=>opt (Mine.truthy g v) g) (isTrue pe f.env (eval pe f.env)) γ s:=by
 intro Φ Ψ Q E hA hE hQ;refine isTrue_plain ?_ he;refine H _ Ψ _ E (R.All.bind.mp hA) hE λv g1 γ1 u h1 tk1 hA1 e1 Z1 r1=>?_;obtain⟨b,hb,hA2⟩:=R.All.opt hA1;exact lC (s:={s with heap:=h1,toks:=tk1}) Z1 O r1 hb λtk=>hQ b g1 γ1 b h1 tk hA2 e1 Z1 rfl
theorem J1{f':Fs}(T:I3 X n f')(O:bB X f n){a:ME}{p:Expr}{pos:Pos}{whole:Sem Value}
  (h3:iN X.K X.C f.scope k a p=true) (Z:aO X f m γ g s.heap) (hl:X.Ls f γ m l):
  dh X f m (λ_ b a=>b=a) (((tst f' l g a).bind λb g=>.ok (.bool (!b)) g).bind λv g=>opt (Mine.truthy g v) g) (isTrue (.UnaryOp .Not p pos) f.env whole) γ s:=by
 intro Φ Ψ Q E hA hE hQ;refine wpAny_isTrue_Not ?_;refine T f m l g γ s k a p O h3 Z hl _ Ψ _ E (R.All.bind.mp (R.All.bind.mp hA)) hE λt g1 γ1 t' hp1 tk1 hA1 e1 Z1 r1=>?_;subst r1;exact hQ (!t') g1 γ1 (!t') hp1 tk1 hA1 e1 Z1 rfl
theorem J2{f':Fs}(T:I3 X n f')(O:bB X f n){c a b:ME}{pc pa pb:Expr}{pos:Pos}{whole:Sem Value}
  (h1:iN X.K X.C f.scope k c pc=true) (h2:iN X.K X.C f.scope k a pa=true) (h3:iN X.K X.C f.scope k b pb=true) (Z:aO X f m γ g s.heap) (hl:X.Ls f γ m l):
  dh X f m (λ_ b a=>b=a) (((tst f' l g c).bind λt g=>match t with
  |true=>f'.e l g a
  |false=>f'.e l g b).bind λv g=>opt (Mine.truthy g v) g) (isTrue (.IfExp pc pa pb pos) f.env whole) γ s:=by
 intro Φ Ψ Q E hA hE hQ;show wpAny _ _ (isTrue pc f.env (eval pc f.env)>>=λt=>if t=true then isTrue pa f.env (eval pa f.env)else isTrue pb f.env (eval pb f.env)) Q E s
 refine wpAny_bind (T f m l g γ s k c pc O h1 Z hl _ Ψ _ E (R.All.bind.mp (R.All.bind.mp hA)) hE λt g1 γ1 t' hp1 tk1 hA1 e1 Z1 r1=>?_);subst r1;cases t' with
 |true=>rw[if_pos rfl];exact T f m l g1 γ1 {s with heap:=hp1,toks:=tk1} k a pa O h2 Z1 (hl.ext e1) Φ Ψ Q E (R.All.bind.mpr hA1) (hE.at hp1 tk1) λv' g' γ' u' h' tk' p e' Z' r'=>hQ v' g' γ' u' h' tk' p (e1.trans e') Z' r'
 |false=>
  rw[if_neg (by decide)]
  exact T f m l g1 γ1 {s with heap:=hp1,toks:=tk1} k b pb O h3 Z1 (hl.ext e1) Φ Ψ Q E (R.All.bind.mpr hA1) (hE.at hp1 tk1) λv' g' γ' u' h' tk' p e' Z' r'=>hQ v' g' γ' u' h' tk' p (e1.trans e') Z' r'
noncomputable def UZ:Expr->Bool:=λe=>Nat.beq e.ctorIdx 0||(U4 (λo _=>VU o) e||(Nat.beq e.ctorIdx 5||Nat.beq e.ctorIdx 15))
theorem Gr{pe:Expr}{env:Env}(h:UZ pe=false):isTrue pe env (eval pe env)=(do let v <- eval pe env;standAt pe.pos;holding [v] (PySem.truthy v)):=by
 cases pe with
 |BoolOp _ _ _=>exact ff h.symm
 |UnaryOp o _ _=>cases o with
  |Not=>exact ff h.symm
  |_=>rfl
 |IfExp _ _ _ _=>exact ff h.symm
 |Compare _ _ _ _=>exact ff h.symm
 |_=>rfl
theorem NF(KO:fY X)(h:ND X n (fs X.C n)):I3 X (n+1) (step X.C (fs X.C n)):=by
 intro f m l g γ s k me pe O c Z hl;have SE1:=yz KO h f m l g γ s k me pe O c Z hl;refine(?_:dh X f m _ ((UI X.C (fs X.C n) l g me).bind λv g=>opt (Mine.truthy g v) g) _ γ s);cases hs:UZ pe with
 |false=>exact Dp O SE1 (Gr hs)
 |true=>
 have O':=O.low (Nat.le_succ n);clear SE1;cases k with
 |zero=>exact ff c
 |succ k=>
  replace c:E9 X.K X.C f.scope (iN X.K X.C f.scope k) me pe=true:=c;cases me with
  |not a=>refine mV (x:=pe) c λo _ _ h1=>?_;obtain rfl:=xK (aj h1);exact J1 h.t O' (ak h1) Z hl
  |and es=>refine jx (x:=pe) c λo _ _ h1=>?_;obtain rfl:=xM (aj h1);exact Bu h.t O' (ak h1) Z hl
  |or es=>refine jx (x:=pe) c λo _ _ h1=>?_;obtain rfl:=Bp (aj h1);exact Fp h.t O' (ak h1) Z hl
  |ite cc a b=>exact vG (x:=pe) c λ_ _ _ _ h1=>J2 h.t O' (aj (aj h1)) (ak (aj h1)) (ak h1) Z hl
  |cmp op a b=>exact jy (x:=pe) c λp os qs _ h1=>dZ (l:=os) h1 λo h2=>dZ (l:=qs) h2 λq h3=>JF KO h.e O' (aj (aj (aj h3))) ((Bool.not_eq_true' _).mp (ak (aj (aj h3)))) (ak (aj h3)) (ak h3) Z hl
  |Bc o1 o2 a b cc=>exact jy (x:=pe) c λp os qs _ h1=>Uc (l:=os) h1 λq1 q2 h2=>Uc (l:=qs) h2 λr1 r2 h3=>Fx KO h.e O' (aj (aj (aj (aj (aj h3))))) (ak (aj (aj (aj (aj h3))))) ((Bool.not_eq_true' _).mp (ak (aj (aj (aj h3))))) (ak (aj (aj h3))) (ak (aj h3)) (ak h3) Z hl
  |any=>exact dh.stop
  |facts=>exact ff c
  |neg a=>exact mV (x:=pe) c (λo _ _ h1 hs=>by obtain rfl:=xJ (aj h1);exact ff hs) hs
  |_=>first
   |exact cO (x:=pe) c (λ_ _ _ _ hs=>ff hs) hs|exact bI (x:=pe) c (λ_ _ _ hs=>ff hs) hs|exact gX (x:=pe) c (λ_ _ _ _ hs=>ff hs) hs|exact ow (x:=pe) c (λ_ _ _ hs=>ff hs) hs|exact oz (x:=pe) c (λ_ _ _ _ hs=>ff hs) hs
   |exact jw (x:=pe) c (λ_ _ _ _ hs=>ff hs) hs|exact ku (x:=pe) c (λ_ _ _ _ hs=>ff hs) hs|exact mU (x:=pe) c (λ_ _ _ _ _ hs=>ff hs) hs|exact iD (x:=pe) c (λ_ _ _ _ _ hs=>ff hs) hs|exact oA (x:=pe) c (λ_ _ _ _ _ hs=>ff hs) hs
theorem Pp(KO:fY X)(h:ND X n (fs X.C n)):SW X (n+1) (UJ X.C (fs X.C n)):=by intro f m l g γ s k c b pc pb O h1 h2 Z hl Φ Ψ Q E hA hE hQ;exact BF h.t h.s h.w (O.low (Nat.le_succ n)) h1 h2 Z hl hA hE hQ
theorem Gs(KO:fY X)(EX:Exc X)(h:ND X n (fs X.C n)):SS X (n+1) (UJ X.C (fs X.C n)):=by
 intro f m l g γ s k ms ps O c Z hl;have O':=O.low (Nat.le_succ n);cases k with
 |zero=>exact ff c
 |succ k=>
  replace c:Pn X.C X.K f.scope (iN X.K X.C f.scope k) (gv X.K X.C f.scope k) ms ps=true:=c;cases ms with
  |expr e=>exact EZ (x:=ps) c λ_ _ h1=>C4 h.e O' (aj h1) (ak h1) Z hl
  |asg x e=>exact p8 (x:=ps) c λl' p _ h1=>dZ (l:=l') (aj (aj h1)) λt h2=>bI (x:=t) h2 λy _ h3=>FW h.e O' (eq_of_beq (aj h3)) (ak h3) (ak (aj h1)) (ak h1) Z hl
  |xg xs e=>exact p8 (x:=ps) c λl' p _ h1=>dZ (l:=l') (aj (aj (aj h1))) λt h2=>gX (x:=t) h2 λ_ _ _ h3=>C8 h.e O' h3 (ak (aj (aj h1))) (ak (aj h1)) (ak h1) Z hl
  |asgA o a e=>exact p8 (x:=ps) c λl' p _ h1=>dZ (l:=l') (aj (aj h1)) λt h2=>jw (x:=t) h2 λ_ _ _ h3=>C9 KO h.e O' (eq_of_beq (aj (aj (aj h3)))) (ak (aj (aj h3))) (ak (aj h3)) (ak (aj h1)) (ak h1) (ak h3) Z hl
  |g7 o i e=>exact p8 (x:=ps) c λl' p _ h1=>dZ (l:=l') (aj (aj h1)) λt h2=>ku (x:=t) h2 λ_ _ _ h3=>Dd KO h.e O' (ak (aj h1)) (ak h1) (aj h3) (ak h3) Z hl
  |aug x op e=>exact Jh (x:=ps) c λt o p _ h1=>bI (x:=t) (aj (aj (aj h1))) λy _ h3=>F7 h.e O' (eq_of_beq (aj h3)) (ak h3) (ak (aj (aj h1))) (ak (aj h1)) (ak h1) Z hl
  |ifs cc a b=>exact M8 (x:=ps) c λ_ _ _ _ h1=>JV h.t h.s O' (aj (aj h1)) (ak (aj h1)) (ak h1) Z hl
  |gw x it b=>exact qM (e:=ps) c λ_ _ _ _ _ h1 h2 h3=>Dg KO h.e h.s O' h1 h2 (aj (aj h3)) (ak (aj h3)) (ak h3) Z hl
  |g8 xs it b=>exact Bl (x:=ps) c λt it' b' o _ h1=>fz (l:=o) (aj (aj (aj (aj h1)))) (gX (x:=t) (ak (aj (aj (aj h1)))) λ_ _ _ h7=>Dh KO h.e h.s O' h7 (ak (aj (aj h1))) (ak (aj h1)) (ak h1) Z hl)
  |forR x lo hi b=>cases lo with
   |none=>exact qM (e:=ps) c λ_ _ it _ _ h1 h2 h3=>lA (e:=it) (aj h3) λ_ _ l' _ h4 h5 h6=>dZ (l:=l') h6 λ_ h7=>ug (lo:=none) (ps:=[_]) KO h.e h.s O' h1 h2 h4 h5 h7 (ak h3) Z hl
   |some lo=>exact qM (e:=ps) c λ_ _ it _ _ h1 h2 h3=>lA (e:=it) (aj h3) λ_ _ l' _ h4 h5 h6=>Uc (l:=l') h6 λ_ _ h7=>ug (lo:=some _) (ps:=[_,_]) KO h.e h.s O' h1 h2 h4 h5 ⟨aj h7,ak h7⟩ (ak h3) Z hl
  |whl cc b=>exact Ji (x:=ps) c λ_ _ o _ h1=>fz (l:=o) (aj (aj h1)) λΦ Ψ Q E hA hE hQ=>wpAny_While (BF h.t h.s h.w O' (ak (aj h1)) (ak h1) Z hl hA hE hQ)
  |ret e=>cases e with
   |none=>exact Bm (x:=ps) c λv _ h1=>p9 (l:=v) h1 λΦ Ψ Q E hA hE hQ=>wpAny_Return_none (hQ (.ret .none) g γ (.ret .none) s.heap s.toks m hA (Ext.refl γ) Z .none)
   |some e=>exact Bm (x:=ps) c λv _ h1=>vI (l:=v) h1 λ_ h2=>F8 h.e O' h2 Z hl
  |raise x=>exact Jj (x:=ps) c λa b' _ h1=>p9 (l:=b') (aj h1) (vI (l:=a) (ak h1) λe h2=>iD (x:=e) h2 λf' l' w _ h3=>fz (l:=w) (aj (aj h3)) (bI (x:=f') (ak (aj h3)) λy _ h4=>dZ (l:=l') (ak h3) λe h5=>cO (x:=e) h5 λc' _ _ h6=>kB (x:=c') h6 λt h7=>Ae KO EX O (eq_of_beq (aj h4)) (ak h4) (eq_of_beq h7) Z))
  |tr b x hh=>
   refine Jk (x:=ps) c λpb hs o z pos h1=>?_;refine dZ (l:=hs) (aj (aj (aj (aj h1)))) λh0 _=>?_;refine fz (l:=o) (ak (aj (aj (aj h1)))) ?_;refine fz (l:=z) (ak (aj (aj h1))) ?_;refine(?_:g9 X f ((blk (fs X.C n) l g b).tr (match Nat.beq x X.C.exc with|true=>blk (fs X.C n) (clean l) ⟨[],0,[]⟩ hh|false=>.st)) (exec (.Try pb [h0] [] [] pos) f.env) γ s)
   rw[(Bool.not_eq_true' _).mp (ak (aj h1))];exact J0 h.s O' (ak h1) Z hl
  |cont=>exact E0 (x:=ps) c λ_ Φ Ψ Q E hA hE hQ=>wpAny_Continue (hQ (.cont l) g γ .cont s.heap s.toks m hA (Ext.refl γ) Z hl)
  |any=>exact g9.stop
structure VC(X:Cx)(kk:Nat):Prop where
 fn:∀a fd,aT X.C.ft a=some fd->vX X kk a fd
 prim:∀(n:Nat)(f:Fm)(m:Str->Option Value)(g:G)(γ:Ga)(s:Shared)(a:Nat)(vs:List V)(us:List Value)(t:R V),bB X f (n+1)->aO X f m γ g s.heap->X.cH γ us vs->X.C.prim a vs g=some t->
  dh X f m (λγ' b a=>X.RV γ' b a) t (call (.ref a) us) γ s
set_option tactic.hygienic true in
theorem Gu(KO:fY X){kk:Nat}(DF:VC X kk)(h:ND X n (fs X.C n)):SC X (n+1) (VH X.C (fs X.C n)):=by
 intro f m g γ s v vs u us O Z r rs;cases v<;>first|exact dh.stop|skip
 rename_i a;obtain rfl:=r.zZ;refine(?_:dh X f m _ (match X.C.prim a vs g with
  |some r=>r
  |none=>match aT X.C.ft a with
   |some fd=>match Tj fd.ps vs fd.df with
    |none=>.st
    |some l=>(blk (fs X.C n) l g fd.body).bind λx g=>match x with
     | .ret v=>.ok v g
     | .next _=>.ok .none g
     | .cont _=>.st
   |none=>match aT X.C.ct a with
    |some k=>T6 X.C (fs X.C n) g a k vs
    |none=>.st) _ γ s)
 cases hp:X.C.prim a vs g with
 |some t=>exact DF.prim n f m g γ s a vs us t O Z rs hp
 |none=>
  cases hf:aT X.C.ft a with
  |some fd=>exact Ny O (DF.fn a fd hf) h.s rs Z
  |none=>
   cases hc:aT X.C.ct a with
   |some kc=>exact JW KO O DF.fn hc h.s rs Z
   |none=>exact dh.stop
theorem mj(KO:fY X)(EX:Exc X){kk:Nat}(DF:VC X kk):∀n,ND X n (fs X.C n)
 |0=>⟨λ_ _ _ _ _ _ _ _ _ _ _ _ _=>dh.stop,λ_ _ _ _ _ _ _ _ _ _ _ _ _=>dh.stop,λ_ _ _ _ _ _ _ _ _ _ _ _ _=>g9.stop,λ_ _ _ _ _ _ _ _ _ _ _ _ _ _ _ _ _ _ _ _ hA=>hA.elim,λ_ _ _ _ _ _ _ _ _ _ _ _ _=>dh.stop⟩
 |n+1=>⟨yz KO (mj KO EX DF n),NF KO (mj KO EX DF n),Gs KO EX (mj KO EX DF n),Pp KO (mj KO EX DF n),Gu KO DF (mj KO EX DF n)⟩
end
end Mine
namespace Mine
open PySem
open Sem (wp)
theorem qV{prog:Program}{w:World}{A:Around}{E:Value->Shared->Prop}{s:Shared}{a:Addr}{xs:Array Value}{k:Nat}{sl:Array (Option Value)}{Q:Option Value->Shared->Prop}
  (hx:s.heap.get? a=some {cls:=.type "list",dict:=none,data:=.seq xs k,slots:=sl}) (hA:A.handled=none)
  (h:∀h' tk,(∀b ob,s.heap.get? b=some ob->h'.get? b=some ob)->Q none {s with heap:=h',toks:=tk}):
  wpAny (model prog w) A (getAttr? (.ref a) "keys") Q E s:=by
 obtain⟨hp,g,d,tk,os⟩:=s;have hT:∀tk',(⟨hp,g,d,tk',os⟩:Shared).TypeIs (.ref a) "list":=λ_=>⟨_,hx,rfl⟩;have f1:=sub_AttributeError;have f3:=F.slot_list_getattribute.lookup;have f4:=F.slot_list_getattribute.bind (.ref a);have f5:=am_list_getattr_none;have hmiss:typeLookup (.type "list") "keys"=pure none:=am_miss_of_fast (by kernel_rfl)
 have hname:(["__module__","__name__","__qualname__","__doc__","__annotations__"]:List Str).contains "keys"=false:=by decide+kernel
 unfold getAttr? getAttrBy? getAttrBy;repeat(any_goals(first|assumption|exact hT _|((with_reducible show wpAny _ _ (call (Value.builtin "list.__getattribute__") _ _) _ _ _);refine call_meets F.slot_list_getattribute (hT _) am_entry_list_getattribute (F.args_list_getattribute_2 _ _) (meets_getattribute_miss_list a xs k sl "keys" _ hmiss hname) ⟨hx,hA,λh' tk' e hx'=>?_⟩)|wp_step))
 obtain⟨t',u',he⟩:=hx'.there;have kk:=hx'.keeps;show wpAny _ _ (getattributeRaised _ _ _ _ _ _ _) _ _ _;unfold getattributeRaised;repeat(any_goals(first|assumption|wp_step))
 exact h _ _ kk
end Mine
namespace Mine
open PySem PyProof.Rows
open Sem (wp)
theorem kG:entryFor table "dict.update.loop"=some Builtin.«dict.update.loop»:=entryFor_of_tree (by kernel_rfl)
theorem f9:plainId "dict.update.loop"=true:=by decide+kernel
noncomputable def lH(ks:Nat->Str)(vs:Nat->Value):Nat->Nat->List (Str×Value)->List (Str×Value)
 |0,_,kvs=>kvs
 |k+1,i,kvs=>lH ks vs k (i+1) (stored kvs (ks i) (vs i))
theorem Ag{K:Type} [DecidableEq K] (kvs:List (K×Value)) (k:K) (v:Value):(stored kvs k v).length<=kvs.length+1:=by
 unfold stored;split
 ·rw[List.length_map];exact Nat.le_succ _
 ·rw[List.length_append,List.length_singleton];exact Nat.le_refl _
theorem Gv{prog:Program}{w:World}{A:Around}{R:Result->Shared->Prop}{I D:Addr}{fp:List Addr}{n:Nat}{P:Nat->Value->Prop}{St:Nat->Heap->Prop}
  (W:Walks prog w A.in1 I fp [I] n P St) (hDf:D∉fp) (ks:Nat->Str) (vs:Nat->Value) (us:Nat->Tok) (tp:Nat->Addr) (hP:∀i v,P i v->v=.ref (tp i)) (ne:∀i,i < n->tp i≠I/\tp i≠D) (hn:n<=1000):
  ∀(k i:Nat)(s:Shared)(kvs:List (Str×Value)),n - i=k->i<=n->St i s.heap->(∀j,j < n->∃nn,s.heap.get? (tp j)=some {cls:=.type "tuple",data:=.seq #[.str (ks j) (us j),vs j] nn})->
   s.heap.DictOf (strKind prog w) D kvs->kvs.length<=i->
   (∀h' tk,h'.DictOf (strKind prog w) D (lH ks vs k i kvs)->(∀b o,b≠D->b≠I->s.heap.get? b=some o->h'.get? b=some o)->R (.ok (.ret .none)) {s with heap:=h',toks:=tk})->
   codeAny (model prog w) A (.builtin "dict.update.loop" ⟨[.ref D,.ref I,.int i 0,.none],[]⟩) R s:=by
 have hDI:D≠I:=λe=>hDf (e▸W.sub I (List.mem_singleton.mpr rfl));intro k;induction k with
 |zero=>
  intro i s kvs hk hi hst ht hD hl hR;have hin:i=n:=Nat.le_antisymm hi (Nat.le_of_sub_eq_zero hk);subst hin;refine codeAny_builtin kG ?_;rw[Around.under_plainId f9 _];show wpAny _ A.in1 (pyNext (.ref I)>>=_) _ _ s;refine wpAny_bind (W.done s _ _ hst λh' tk hm=>?_);show wpAny _ A.in1 (Builtin.Dict.addKeywords D []>>=λ_=>ret Value.none) _ _ _;refine wpAny_bind (wpAny_pure (wpAny_pure (hR h' tk ?_ λb o _ hb e=>hm b o (by simpa using hb) e)))
  obtain⟨o,es,ep,ho,r⟩:=hD;exact⟨o,es,ep,hm D o (by simpa using hDI) ho,r⟩
 |succ k ih=>
  intro i s kvs hk hi hst ht hD hl hR;have hlt:i < n:=Nat.lt_of_sub_eq_succ hk;refine codeAny_builtin kG ?_;rw[Around.under_plainId f9 _];show wpAny _ A.in1 (pyNext (.ref I)>>=_) _ _ s;refine wpAny_bind (W.item i s _ _ hlt hst λv h' tk hPv hst' hm=>?_);obtain rfl:=hP i v hPv;have hD':h'.DictOf (strKind prog w) D kvs:=by obtain⟨o,es,ep,ho,r⟩:=hD;exact⟨o,es,ep,hm D o (by simpa using hDI) ho,r⟩
  have ht':∀j,j < n->∃nn,h'.get? (tp j)=some {cls:=.type "tuple",data:=.seq #[.str (ks j) (us j),vs j] nn}:=λj hj=>by obtain⟨nn,e⟩:=ht j hj;exact⟨nn,hm _ _ (by simpa using(ne j hj).1) e⟩
  obtain⟨nn,et⟩:=ht' i hlt;have hT:({s with heap:=h',toks:=tk}:Shared).TypeIs (.ref (tp i)) "tuple":=⟨_,et,rfl⟩
  show wpAny _ A.in1 (holding [Value.ref (tp i)] _>>=_) _ _ _;refine wpAny_bind (wpAny_holding (wpAny_bind (wpAny_tryCatch ?_)));unfold Builtin.Dict.pairItems;refine wpAny_bind (wpAny_typeOf hT ?_);rw[if_pos (by decide)]
  unfold seqItems?;refine wpAny_bind (wpAny_bind (wpAny_load et (wpAny_pure (wpAny_pure ?_))));show wpAny _ A.in1 (holding [.str (ks i) (us i),vs i] (dictSet D (.str (ks i) (us i)) (vs i))) _ _ _;refine wpAny_holding (wpAny_dictSet_pairs (hsz:=by rw[sizeLine_eq];exact l8 (Nat.le_trans hl (Nat.le_trans hi hn)) rfl) (strKind_is prog w _ _) hD' λh'' hD2 hs=>?_)
  have hne:∀b∈fp,∀o,h'.get? b=some o->h''.get? b=some o:=λb hb o e=>(hs.2 b (λq=>hDf (q▸hb))).trans e;refine wpAny_pure ⟨plainId_quiet f9 _,?_⟩;refine ih (i+1) {s with heap:=h'',toks:=tk+1} (stored kvs (ks i) (vs i)) (congrArg Nat.pred hk) hlt (W.frame _ _ _ hst' hne) (λj hj=>?_) hD2 (Nat.le_trans (Ag kvs (ks i) (vs i)) (Nat.succ_le_succ hl)) λh3 tk3 hD3 hk3=>?_
  ·obtain⟨nn,e⟩:=ht' j hj;exact⟨nn,(hs.2 _ (ne j hj).2).trans e⟩
  ·exact hR h3 tk3 hD3 λb o h1 h2 e=>hk3 b o h1 h2 ((hs.2 b h1).trans (hm b o (by simpa using h2) e))
theorem pZ{prog:Program}{w:World}{A:Around}{E:Value->Shared->Prop}{s:Shared}{Q:Value->Shared->Prop}{l:Addr}{items:Array Value}{kk:Nat}{sl:Array (Option Value)}
  (hx:s.heap.get? l=some {cls:=.type "list",dict:=none,data:=.seq items kk,slots:=sl}) (hA:A.handled=none)
  (ks:Nat->Str) (vs:Nat->Value) (us:Nat->Tok) (tp:Nat->Addr) (hP:∀(i:Nat)(v:Value),items[i]?=some v->v=.ref (tp i)) (hn:items.size<=1000)
  (ht:∀j,j < items.size->∃nn,s.heap.get? (tp j)=some {cls:=.type "tuple",data:=.seq #[.str (ks j) (us j),vs j] nn})
  (h:∀h' tk,h'.DictOf (strKind prog w) s.heap.objs.size (lH ks vs items.size 0 [])->(∀b o,s.heap.get? b=some o->h'.get? b=some o)->Q (.ref s.heap.objs.size) {s with heap:=h',toks:=tk}):
  wpAny (model prog w) A (call (.type "dict") [.ref l]) Q E s:=by
 refine callType_codes (Q₁:=λobj s₁=>obj=.ref s.heap.objs.size/\s₁={s with heap:=s.heap.push {cls:=.type "dict",data:=.dict #[]}}) F.kt_called_dict (F.kt_typeCall_dict_1 _) F.entry_dict_init (kt_code_dict_new _ ⟨rfl,rfl⟩) ?_
 rintro obj s₁ ⟨rfl,rfl⟩
 have hnew:(s.heap.push {cls:=.type "dict",data:=.dict #[]}).DictOf (strKind prog w) s.heap.objs.size []:=Heap.DictOf.new s.heap;have hx':=Heap.get?_push_of_some {cls:=.type "dict",data:=.dict #[]} hx;have hT:({s with heap:=s.heap.push {cls:=.type "dict",data:=.dict #[]}}:Shared).TypeIs (.ref l) "list":=⟨_,hx',rfl⟩
 refine⟨hnew.typeIs,F.args_dict_init_2 _ _,?_⟩;unfold Builtin.«dict.__init__»;refine wpAny_bind ?_;unfold Builtin.Dict.selfAndRest;refine wpAny_bind (wpAny_notOrdered_dict hnew.typeIs ?_);show wpAny _ _ (pure (s.heap.objs.size,[Value.ref l])) _ _ _;refine wpAny_pure ?_;show wpAny _ _ (Builtin.Dict.updateFrom "dict.__init__" s.heap.objs.size (.ref l) [] .none) _ _ _;unfold Builtin.Dict.updateFrom;refine wpAny_bind (wpAny_typeOf hT ?_);rw[if_pos (by decide)]
 refine wpAny_bind (qV hx' hA λh1 tk1 keep1=>?_);rw[if_pos (show(none:Option Value).isNone=true from rfl)];refine wpAny_bind (wpAny_rule ?_);have hl1:h1.IsList l items:=⟨_,keep1 _ _ hx',rfl,_,rfl⟩;refine wpAny_bind (wpAny_pyIter_list hl1 ?_);have hd0:(s.heap.push {cls:=.type "dict",data:=.dict #[]}).get? s.heap.objs.size=some {cls:=.type "dict",data:=.dict #[]}:=Heap.get?_push_size _ rfl;have hd1:=keep1 _ _ hd0;have lt1:s.heap.objs.size < h1.objs.size:=Heap.lt_size hd1;have ll:l < h1.objs.size:=Heap.lt_size (keep1 _ _ hx');have lls:l < s.heap.objs.size:=Heap.lt_size hx;have hne:l≠h1.objs.size:=Nat.ne_of_lt ll;have hsd:s.heap.objs.size∉[h1.objs.size,l]:=by simp only[List.mem_cons,List.not_mem_nil,or_false,not_or];exact⟨Nat.ne_of_lt lt1,Nat.ne_of_gt lls⟩
 refine wpAny_pure ⟨plainId_quiet f9 _,?_⟩;have up:∀b o,s.heap.get? b=some o->(h1.push {cls:=.type "list_iterator",data:=.fields #[.ref l,.int 0 0]}).get? b=some o:=λb o e=>Heap.get?_push_of_some _ (keep1 _ _ (Heap.get?_push_of_some _ e));refine Gv (A:=A.in1) (Walks.list (by simp [hA]) h1.objs.size l hne items) hsd ks vs us tp hP (λi hi=>?_) hn (items.size - 0) 0 _ [] rfl (Nat.zero_le _) ⟨⟨_,Heap.get?_push_size _ rfl,rfl,rfl⟩,hl1.push _⟩ (λj hj=>?_) ?_ (Nat.le_refl _) λh' tk hD hk=>?_
 ·obtain⟨nn,e⟩:=ht i hi;have:=Heap.lt_size e;exact⟨Nat.ne_of_lt (Nat.lt_trans this lt1),Nat.ne_of_lt this⟩
 ·obtain⟨nn,e⟩:=ht j hj;exact⟨nn,up _ _ e⟩
 ·obtain⟨o,es,ep,ho,r⟩:=hnew;exact⟨o,es,ep,Heap.get?_push_of_some _ (keep1 _ _ ho),r⟩
 ·refine⟨rfl,h h' tk hD λb o e=>hk b o (Nat.ne_of_lt (Heap.lt_size e)) (Nat.ne_of_lt (Nat.lt_trans (Heap.lt_size e) lt1)) (up b o e)⟩
end Mine
namespace Mine
open PySem PySem.W PySem.Calls PyProof.Rows PyProof.Rows.LCg
theorem Gw{prog:Program}{w:World}{A:Around}{E:Value->Shared->Prop}{s:Shared}{h₀:Heap}{L:Addr}{m:Str->Option Value}{env:Env}{elt iter:Expr}{x:Str}{px:Pos}{scope:Scope}{cl:List (Str×Addr)}{pos:Pos}{Q:Value->Shared->Prop}
  (hclos:closureFor scope env=pure cl) (hcell:∀y∈scope.names,y.2≠.cell) (hkind:scope.kind=.function)
  (hnames:∀y∈scope.names,y.2=.local->scope.names.lookup y.1=some .local) (hx:scope.names.lookup x=some .local)
  (h:wpAny (model prog w) A (eval iter env) (λxv s₁=>∃ax its news,xv=.ref ax/\A.handled=none/\Fr h₀ L s₁.heap m/\News h₀ L s₁.heap news/\h₀.IsTuple ax its/\its.size<=sizeLine/\
   ∀h',CompRest prog w A h₀ L m env elt x scope cl {s₁ with heap:=h'} (λ_=>True) (λi v=>its[i]?=some v) (FinE h₀ L m {s₁ with heap:=h'} Q) its.size 0 [] news) E s)
  (hs:∀x,foldedSetIterable iter env x=pure x:=by intro _;rfl):
  wpAny (model prog w) A (eval (.ListComp elt [⟨.Name x px,iter,[],0⟩] scope pos) env) Q E s:=by
 rw[eval_ListComp];refine wpAny_comprehension_free (use:=none) rfl hs hclos hkind hnames (wpAny_mono h (λxv s₁ h₁=>?_) λ_ _ e=>e);obtain⟨ax,its,news,rfl,hh,F,N,T,hsz,R⟩:=h₁;have keepT:∀h':Heap,(∀b o,h₀.get? b=some o->h'.get? b=some o)->h'.IsTuple ax its:=λh' k=>by obtain⟨o,e,r⟩:=T;exact⟨o,k _ _ e,r⟩
 have hl:=keepT _ F.keep;have hlt:ax < s₁.heap.objs.size:=by obtain⟨o,e,r⟩:=hl;exact Heap.lt_size e
 have up:∀b o,s₁.heap.get? b=some o->(s₁.heap.push {cls:=.type "tuple_iterator",data:=.fields #[.ref ax,.int 0 0]}).get? b=some o:=λb o e=>Heap.get?_push_of_some _ e;have low:∀b∈[s₁.heap.objs.size,ax],b < (s₁.heap.push {cls:=.type "tuple_iterator",data:=.fields #[.ref ax,.int 0 0]}).objs.size:=λb hb=>by
  rw[Heap.size_push];rcases List.mem_cons.mp hb with e|hb
  ·rw[e];exact Nat.lt_succ_self _
  ·rw[List.mem_singleton.mp hb];exact Nat.lt_succ_of_lt hlt
 refine wpAny_pyIter_tuple hl (block_U (Walks.tuple hh s₁.heap.objs.size ax (Nat.ne_of_lt hlt) its) hsz (λi h st=>by obtain⟨o,e,r⟩:=st.1;exact⟨o,e⟩)
  (λi h h' o nw st e e' k _ _=>⟨by obtain⟨o',q,r⟩:=st.1;rw[e]at q;cases q;exact⟨o,e',r⟩,keepT h' k⟩)
  hcell hkind hx ⟨⟨_,Heap.get?_push_size _ rfl,rfl,rfl⟩,keepT _ (F.keeps up).keep⟩ low (F.keeps up) (N.grown up) (Nat.ne_of_lt F.ns.lt) (next_is_new F) (λp hp=>Nat.ne_of_lt (Heap.lt_size (N p hp).1)) trivial (R _) ?_)
 intro D C h tk m' ys news' F' N' o1 hn hC₀ hD₀ hCL hDL hCD offC fin;refine⟨m',hn,λh'' hs''=>fin D h'' tk (F'.change hs'' hCL hC₀) (λp hp=>⟨hs''.extBut _ _ ?_ (N' p hp).1,(N' p hp).2⟩) o1⟩;rcases List.mem_cons.mp hp with e|hp
 ·rw[e];exact Ne.symm hCD
 ·exact offC p hp
noncomputable def qW:List S->Nat->List V
 |[],_=>[]
 |n::r,i=>.tup [.str n,.ref (100+i)]::qW r (i+1)
noncomputable def vZ:Nat->Nat->List (Nat×By)
 |0,_=>[]
 |k+1,i=>(100+i,.list [])::vZ k (i+1)
section
variable{X:Cx}{f:Fm}{m:Str->Option Value}{n:Nat}
theorem o9(O:bB X f n){s:Shared}{a:Str}{ap lp tp:Pos}{kk:Nat}{scope:Scope}{Fin:List Value->List (Addr×Obj)->Prop}{ws:List Value}{KK:G->R V}{Φ:V->G->Prop}{Ψ:Prop}
  (hc:TF scope a=true):
  ∀(us:List Value)(ss:List S)(pre ys:List Value)(acc:List V)(γ:Ga)(g:G),ws=pre++us->X.cH γ us (ss.map .str)->X.cH γ ys acc->X.gq γ g->((qk g (vZ ss.length pre.length)).bind λ_ g=>KK g).All Φ Ψ->
   (∀ys γ' g',Ext γ γ'->X.gq γ' g'->X.cH γ' ys (acc++qW ss pre.length)->(KK g').All Φ Ψ->Fin ys γ'.news)->
   CompRest X.prog X.w f.A f.h₀ f.L m f.env (.Tuple [.Name a ap,.List [] lp] kk tp) a scope [] s (λ_=>True) (λi v=>ws.toArray[i]?=some v) Fin us.length pre.length ys γ.news
 |[],ss,pre,ys,acc,γ,g,hw,hus,hys,gk,hA,hF=>by
  cases ss with
  |cons _ _=>cases hus
  |nil=>exact hF ys γ g (Ext.refl γ) gk (by show X.cH γ ys (acc++[]);rw[List.append_nil];exact hys) hA
 |u::us,[],pre,ys,acc,γ,g,hw,hus,hys,gk,hA,hF=>by cases hus
 |u::us,x::ss,pre,ys,acc,γ,g,hw,hus,hys,gk,hA,hF=>by
  obtain⟨c1,c2,c3,c4,c5,c6⟩:=jO hc;cases hus with
  |cons hu hus=>
   show CompRest _ _ _ _ _ _ _ _ _ _ _ _ _ _ _ (us.length+1) _ _ _;intro v I oI C oC D m₂ h tk E' hP hoC hx F N off hne;have hv:v=u:=by have hP:ws.toArray[pre.length]?=some v:=hP;rw[hw]at hP;simpa using hP.symm
   subst hv;have hkd:(compEnvC scope [] C f.env).scope.kind=.function:=by simp [compEnvC,relabel,c3]
   have hkl:(compEnvC scope [] C f.env).kindOf a=some .local:=lookup_relabel_local c5;have Z:aO X f m γ g h:=⟨F,λp hp=>N p (.tail _ (.tail _ (.tail _ hp))),gk⟩;obtain⟨hfree,hA2⟩:=Z.alloc (s:={s with heap:=h,toks:=tk}) (R.All.bind.mp (R.All.bind.mp hA))
   refine Tuple_ ?_;rw[aE rfl,aE rfl];refine AS (LCgL.ld_own N (.tail _ (.head _)) hoC hx ?_ hkd hkl c6);refine AS (List_ (wpAny_pure (newList_K (s:={s with heap:=h,toks:=tk}) F N (λla h1 F1 N1 fr=>wpAny_pure ?_) (cZ (by simp)))))
   have fr0:∀p∈γ.news,p.1 < la:=λp hp=>fr p (.tail _ (.tail _ (.tail _ hp)));have ex1:Ext γ (γ.alloc (100+pre.length) la (PySem.W.listOf (List.toArray []) 0)):=Ext.alloc gk fr0 (gk.cell _ _ hfree);have g1:X.gq (γ.alloc (100+pre.length) la (PySem.W.listOf (List.toArray []) 0)) ⟨jf g.hp (100+pre.length) (.list []),g.left,g.lk⟩:=
    gk.alloc fr0 hfree ⟨la,[],0,cB,.head _,.nil,by simp;exact l8 gk.lf rfl⟩
   refine newTuple_N (s:={s with heap:=h1,toks:=tk}) F1 N1 (λh2 F2 N2=>?_) (cZ (by simp))
   have fr2:∀p∈(γ.alloc (100+pre.length) la (PySem.W.listOf (List.toArray []) 0)).news,p.1 < h1.objs.size:=λp hp=>by
    rcases List.mem_cons.mp hp with e|hp
    ·rw[e];exact Heap.lt_size (N1 _ (.head _)).1
    ·exact Heap.lt_size (N1 p (.tail _ (.tail _ (.tail _ (.tail _ hp))))).1
   have ex2:Ext (γ.alloc (100+pre.length) la (PySem.W.listOf (List.toArray []) 0)) ((γ.alloc (100+pre.length) la (PySem.W.listOf (List.toArray []) 0)).push h1.objs.size (iJ [v,.ref la] 0)):=Ext.push g1;have eA:=ex1.trans ex2;have offI:∀p∈[(I,oI),(C,oC),(D,lst ys)],p.1 < la/\p.1 < h1.objs.size:=λp hp=>by
    have mem:p∈(I,oI)::(C,oC)::(D,lst ys)::γ.news:=by
     rcases List.mem_cons.mp hp with e|hp
     ·rw[e];exact .head _
     ·rcases List.mem_cons.mp hp with e|hp
      ·rw[e];exact .tail _ (.head _)
      ·rw[List.mem_singleton.mp hp];exact .tail _ (.tail _ (.head _))
    exact⟨fr p mem,Heap.lt_size (N1 p (.tail _ mem)).1⟩
   have oI':=offI _ (.head _);have oC':=offI _ (.tail _ (.head _));have oD':=offI _ (.tail _ (.tail _ (.head _)));refine CompEnd.intro (s₁:={s with heap:=h,toks:=tk}) F2 N2 ((γ.alloc (100+pre.length) la (PySem.W.listOf (List.toArray []) 0)).push h1.objs.size (iJ [v,.ref la] 0)).news (λp hp=>?_)
    ⟨⟨Nat.ne_of_gt oI'.2,Nat.ne_of_gt oC'.2,Nat.ne_of_gt oD'.2⟩,⟨Nat.ne_of_gt oI'.1,Nat.ne_of_gt oC'.1,Nat.ne_of_gt oD'.1⟩,off⟩ trivial ?_
   ·rcases List.mem_cons.mp hp with e|hp
    ·rw[e];exact .tail _ (.tail _ (.head _))
    ·rcases List.mem_cons.mp hp with e|hp
     ·rw[e];exact .tail _ (.tail _ (.tail _ (.head _)))
     ·rcases List.mem_cons.mp hp with e|hp
      ·rw[e];exact .tail _ (.tail _ (.tail _ (.tail _ (.head _))))
      ·rcases List.mem_cons.mp hp with e|hp
       ·rw[e];exact .head _
       ·rcases List.mem_cons.mp hp with e|hp
        ·rw[e];exact .tail _ (.head _)
        ·exact .tail _ (.tail _ (.tail _ (.tail _ (.tail _ hp))))
   ·have rl:X.RV ((γ.alloc (100+pre.length) la (PySem.W.listOf (List.toArray []) 0)).push h1.objs.size (iJ [v,.ref la] 0)) (.ref la) (.ref (100+pre.length)):=.ref (ex2.rho _ _ cB);have rt:X.RV ((γ.alloc (100+pre.length) la (PySem.W.listOf (List.toArray []) 0)).push h1.objs.size (iJ [v,.ref la] 0)) (.ref h1.objs.size) (.tup [.str x,.ref (100+pre.length)]):=
     .tup (At.push g1 fr2) (.cons (hu.ext eA) (.cons rl .nil)) (by simp)
    have hA3:((qk ⟨jf g.hp (100+pre.length) (.list []),g.left,g.lk⟩ (vZ ss.length (pre.length+1))).bind λ_ g=>KK g).All Φ Ψ:=R.All.bind.mpr hA2;have ih:=o9 O (s:=s) (ap:=ap) (lp:=lp) (tp:=tp) (kk:=kk) (Fin:=Fin) (ws:=ws) (KK:=KK) (Φ:=Φ) (Ψ:=Ψ) hc us ss (pre++[v]) (ys++[.ref h1.objs.size]) (acc++[.tup [.str x,.ref (100+pre.length)]]) _ _ (by rw[hw];simp) (hus.ext eA) ((hys.ext eA).append (.cons rt .nil)) (g1.push fr2)
     (by rw[List.length_append,List.length_singleton];exact hA3)
     (λys' γ' g' e' gk' r hK=>hF ys' γ' g' (eA.trans e') gk' (by rw[List.length_append,List.length_singleton,List.append_assoc]at r;exact r) hK)
    rw[List.length_append,List.length_singleton]at ih;exact ih
end
noncomputable def uz:List S->Nat->List (S×V)->List (S×V)
 |[],_,l=>l
 |n::r,i,l=>uz r (i+1) (T7 l n (.ref (100+i)))
theorem uB{prog:Program}{w:World}{K:Frag}{γ:Ga}{ks:Nat->Str}{vs:Nat->Value}:∀(rem:List S)(i:Nat)(kvs:List (Str×Value))(l:List (S×V)),gR prog w K γ kvs l->(kvs.map (·.1)).Nodup->
  (∀j x,rem[j]?=some x->ks (i+j)=toS x/\sok x=true/\RV prog w K γ (vs (i+j)) (.ref (100+(i+j))))->gR prog w K γ (lH ks vs rem.length i kvs) (uz rem i l)
 |[],i,kvs,l,h,_,_=>h
 |x::rem,i,kvs,l,h,hn,hk=>by obtain⟨e,hs,r⟩:=hk 0 x rfl;show gR prog w K γ (lH ks vs rem.length (i+1) (stored kvs (ks i) (vs i))) (uz rem (i+1) (T7 l x (.ref (100+i))));have e:ks i=toS x:=e;have r:RV prog w K γ (vs i) (.ref (100+i)):=r;rw[o7 hn,e];refine uB rem (i+1) _ _ (gR.put hs r h) (qy hn) λj y hj=>?_;have:=hk (j+1) y hj;rw[show i+(j+1)=i+1+j from Nat.add_right_comm i j 1]at this;exact this
theorem Dq:∀l:List (S×V),l.length<=100->mQ (l.map λp=>(p.1,some p.2)) l:=by
 intro l hl;refine⟨λk=>?_,?_,by rw[List.length_map];exact hl⟩
 ·induction l with
  |nil=>rfl
  |cons p r ih=>
   rw[List.map_cons];by_cases e:p.1=k
   ·rw[jv (p:=(p.1,some p.2)) e,fW e]
   ·rw[gI (p:=(p.1,some p.2)) e,dY e];exact ih (Nat.le_of_succ_le hl)
 ·induction l with
  |nil=>rfl
  |cons p r ih=>show cnt (r.map _)+1=r.length+1;rw[ih (Nat.le_of_succ_le hl)]
section
variable{X:Cx}{f:Fm}{m:Str->Option Value}{γ:Ga}{g:G}{s:Shared}{n:Nat}{l:Loc}{k:Nat}
noncomputable def NG:V:=.tup (nms.map .str)
noncomputable def Gx(g:G):R V:=g.alloc 5 (.dict (nms.zipIdx.map λp=>(p.1,some (.ref (100+p.2)))) nms)
noncomputable def Gy(g:G):R V:=(qk g (vZ 6 0)).bind λ_ g=>Gx g
set_option tactic.hygienic true in
theorem J3(Z:aO X f m γ g s.heap){u:Value}{x:S}{j:Nat}(r:X.RV γ u (.tup [.str x,.ref (100+j)])):∃p:Addr×Value×Tok,u=.ref p.1/\(∃nn,X.At γ p.1 (iJ [.str (toS x) p.2.2,p.2.1] nn))/\X.RV γ p.2.1 (.ref (100+j))/\sok x=true:=by replace r:=r.fB;obtain⟨_,_,_,rfl,ha,rs,hz⟩:=r;rename_i a vs nn;replace rs:=rs.cons_inv;obtain⟨_,_,rfl,r1,rs⟩:=rs;replace rs:=rs.cons_inv;obtain⟨_,_,rfl,r2,rs⟩:=rs;cases rs;replace r1:=r1.str_inv;obtain⟨t,rfl,hs⟩:=r1;exact⟨(a,_,t),rfl,⟨nn,ha⟩,r2,hs⟩
set_option tactic.hygienic true in
theorem Dr(KO:fY X)(O:bB X f n){xn:Nat}{y a b hn:Str}{np ap bp hp lp tp lpos pos:Pos}{kk:Nat}{lsc:Scope}(hy:y="dict")(hg:b7 f.scope y=true)(hab:a=b)(hc:TF lsc b=true)
  (hx:nm xn=hn) (hgn:b7 f.scope hn=true) (hgt:aT X.C.gt xn=some NG) (Z:aO X f m γ g s.heap) (hl:X.Ls f γ m l):
  dh X f m (λγ' b a=>X.RV γ' b a) (Gy g) (eval (.Call (.Name y np) [.ListComp (.Tuple [.Name a ap,.List [] lp] kk tp) [⟨.Name b bp,.Name hn hp,[],0⟩] lsc lpos] [] pos) f.env) γ s:=by
 subst hy hab hx;intro Φ Ψ Q E hA hE hQ;obtain⟨c1,c2,c3,c4,c5,c6⟩:=jO hc;refine Call_Name rfl (fE KO Z O (by decide) PyProof.Rows.Boot.«dict» hg ?_)
 refine PyProof.Rows.callWith_type1 ?_ (aE rfl) rfl;rw[aE rfl];refine AS ?_;refine Gw (h₀:=f.h₀) (L:=f.L) (m:=m) (m7 c1) c2 c3 c4 c5 ?_;obtain⟨u,hu,r⟩:=KO.gt xn NG hgt;refine nameX_K Z.F O.X₀ (topRead_of O.T) hu ?_ O.kind (fD hgn).1 (fD hgn).2;have r0:=r ⟨[],[],[],[]⟩;have r1:=r γ;replace r0:=r0.fB;obtain⟨_,_,_,rfl,ha,rs,hz⟩:=r0;rename_i ax vs nn;have hK:X.K.lookup ax=some (iJ vs nn):=by
  rcases ha with⟨h,_⟩|h
  ·cases h
  ·exact h
 have rs1:X.cH γ vs (nms.map .str):=by
  replace r1:=r1.fB;obtain⟨a',vs',nn',e',ha',rs',_⟩:=r1;cases e';have:s.heap.get? ax=some (iJ vs' nn'):=Z.get O ha';rw[Z.F.keep _ _ (O.X₀ _ _ hK)]at this;have:vs=vs':=by
   have h2:=Option.some.inj this;injection h2 with _ _ h3 _
   injection h3 with h4 _
   have:=congrArg Array.toList h4;simpa using this
  rw[this];exact rs'
 have hlen:vs.length=6:=by have:=rs1.length;simpa [nms]using this
 refine⟨ax,vs.toArray,γ.news,rfl,O.hh,Z.F,Z.N,⟨_,O.X₀ _ _ hK,rfl,_,rfl⟩,cZ (by rw[List.size_toArray,hlen];decide),λh'=>?_⟩
 rw[List.size_toArray];refine o9 (Φ:=Φ) (Ψ:=Ψ) (KK:=Gx) O hc vs nms [] [] [] γ g rfl rs1 .nil Z.gk hA λys γ' g' e' gk' rp hK'=>?_;intro D h2 tk2 F2 N2 off2;refine wpAny_pure ?_;have Z2:aO X f m γ' g' h2:=⟨F2,λp hp=>N2 p (.tail _ hp),gk'⟩;have rp:X.cH γ' ys (qW nms 0):=rp;have hlen2:ys.length=6:=by have:=rp.length;simpa [nms,qW]using this
 have pick:∀j:Nat,∃p:Addr×Value×Tok,∀x,nms[j]?=some x->ys[j]?=some (.ref p.1)/\(∃nn,X.At γ' p.1 (iJ [.str (toS x) p.2.2,p.2.1] nn))/\X.RV γ' p.2.1 (.ref (100+j))/\sok x=true:=λj=>by
  cases hx:nms[j]? with
  |none=>exact⟨(0,.none,0),λx h=>by cases h⟩
  |some x=>
   have hv:(qW nms 0)[j]?=some (.tup [.str x,.ref (100+j)]):=by
    have:j < 6:=by have:=(List.getElem?_eq_some_iff.mp hx).1;simpa [nms]using this
    have:=M4 _ this;rcases this with rfl|rfl|rfl|rfl|rfl|rfl<;>(cases hx;rfl)
   obtain⟨u,hu,ru⟩:=rp.get hv;obtain⟨p,e1,e2,e3,e4⟩:=J3 (s:={s with heap:=h2}) Z2 ru
   exact⟨p,λy hy=>by cases hy;exact⟨by rw[hu,e1],e2,e3,e4⟩⟩
 obtain⟨F,hF⟩:=Classical.axiomOfChoice pick;have nmj:∀j,j < 6->∃x,nms[j]?=some x:=λj hj=>⟨nms[j]'(by simpa [nms]using hj),List.getElem?_eq_getElem _⟩
 have hDl:=(N2 (D,lst ys) (.head _)).1;refine pZ (s:={s with heap:=h2,toks:=tk2}) hDl O.hh (λj=>toS (nms.getD j [])) (λj=>(F j).2.1) (λj=>(F j).2.2) (λj=>(F j).1) (λj v hv=>?_) (by rw[List.size_toArray,hlen2];decide) (λj hj=>?_) λh3 tk3 hd3 keep3=>?_
 ·have hj:j < 6:=by have:=(Array.getElem?_eq_some_iff.mp hv).1;rw[List.size_toArray,hlen2]at this;exact this
  obtain⟨x,hx⟩:=nmj j hj;have:=(hF j x hx).1;rw[List.getElem?_toArray,this]at hv;exact(Option.some.inj hv).symm
 ·rw[List.size_toArray,hlen2]at hj;obtain⟨x,hx⟩:=nmj j hj;obtain⟨_,⟨nn,ha⟩,_,_⟩:=hF j x hx;refine⟨nn,?_⟩;have hg:nms.getD j []=x:=by rw[List.getD_eq_getElem?_getD,hx];rfl
  rw[hg];exact aO.get (s:={s with heap:=h2,toks:=tk2}) Z2 O ha
 ·obtain⟨o,ho,hd⟩:=Heap.dictOf_iff.mp hd3;have fr:∀p∈γ'.news,p.1 < h2.objs.size:=λp hp=>Heap.lt_size (Z2.N p hp).1;obtain⟨hfree,hA3⟩:=aO.alloc (s:={s with heap:=h2,toks:=tk2}) Z2 hK'
  have ex:=Ext.alloc (o:=o) gk' fr (gk'.cell _ _ hfree);have hD0:f.h₀.get? h2.objs.size=none:=by
   cases q:f.h₀.get? h2.objs.size with
   |none=>rfl
   |some o'=>exact absurd (Heap.lt_size (F2.keep _ _ q)) (Nat.lt_irrefl _)
  have N3:News f.h₀ f.L h3 ((h2.objs.size,o)::γ'.news):=λp hp=>by
   rcases List.mem_cons.mp hp with e|hp
   ·rw[e];exact⟨ho,Nat.ne_of_gt F2.ns.lt,hD0⟩
   ·exact⟨keep3 _ _ (Z2.N p hp).1,(Z2.N p hp).2⟩
  refine hQ (.ref 5) _ (γ'.alloc 5 h2.objs.size o) _ h3 tk3 hA3 (e'.trans ex) ⟨F2.keeps keep3,N3,gk'.alloc fr hfree ?_⟩ (.ref cB);have rps:X.gR γ' (lH (λj=>toS (nms.getD j [])) (λj=>(F j).2.1) nms.length 0 []) (uz nms 0 []):=by
   refine uB nms 0 [] [] .nil (by simp) λj x hx=>?_
   rw[Nat.zero_add];obtain⟨_,_,rr,hs⟩:=hF j x hx;exact⟨by show toS (nms.getD j [])=toS x;rw[List.getD_eq_getElem?_getD,hx];rfl,hs,rr⟩
  refine⟨h2.objs.size,o,_,uz nms 0 [],cB,.head _,?_,rps.ext ex,by kernel_rfl,?_⟩
  ·have:ys.toArray.size=nms.length:=by rw[List.size_toArray,hlen2];rfl
   rw[this]at hd;exact hd
  ·exact Dq (uz nms 0 []) (by decide+kernel)
end
end Mine
namespace Mine
set_option genCtorIdx true in
inductive Kl where
 |k0|k1|k2|k3|k4|c1|c2|c3|cs
 deriving DecidableEq
set_option genCtorIdx true in
inductive Dm where
 |d0|d1|d2|d3
 deriving DecidableEq
set_option genCtorIdx true in
inductive Us where
 |var|array|param|aU|intr|proc|func|sub
 deriving DecidableEq
set_option genCtorIdx true in
inductive Vl where
 |no|p0|p1|p2|p3|stf
 deriving DecidableEq
set_option genCtorIdx true in
inductive Cm where
 |no|bl|blk
 deriving DecidableEq
structure Sy where
 kl:Kl
 dims:Dm
 use:Us
 bF:Bool
 val:Vl
 fV:Cm
 d9:Bool
structure NS where
 sy:Option Sy
 ty:Bool
 ap:Bool
 ca:Bool
 ex:Bool
 co:Option Vl
noncomputable def gY:S:=cz
noncomputable def Kl.kind:Kl->V
 | .k0=>.int 0| .k1=>.int 1| .k2=>.int 2| .k3=>.int 3| .k4=>.int 4|_=>.int 5
noncomputable def Kl.len:Kl->V
 | .c1=>.int 1| .c2=>.int 2| .c3=>.int 3| .cs=>.none|_=>.int 0
noncomputable def Kl.told:Kl->V
 | .c2=>.tup [.str gY,.int 2]| .c3=>.tup [.str gY,.int 3]| .cs=>.str [42]|_=>.none
noncomputable def Dm.v:Dm->V
 | .d0=>.lst []| .d1=>.lst [.tup [.none,.tup [.str gY,.int 4]]]| .d2=>.lst [.tup [.tup [.str gY,.int 0],.tup [.str gY,.int 2]],.tup [.none,.none]]| .d3=>.lst [.tup [.none,.tup [.str gY,.int 3]]]
noncomputable def Us.s:Us->S
 | .var=>eo| .array=>gG| .param=>aQ| .aU=>bf| .intr=>iH
 | .proc=>[112,114,111,99]| .func=>[102,117,110,99]| .sub=>[115,117,98]
noncomputable def eY:V:=.tup [.str [98,105,110],.str [43],.tup [.str bX,.str [74]],.tup [.str gY,.int 1]]
noncomputable def Vl.v:Vl->V
 | .no=>.none| .p0=>.tup [.int 0,.int 7]| .p1=>.tup [.int 1,.tup [.int 7,.int 0]]| .p2=>.tup [.int 2,.tup [.int 7,.int 0]]
 | .p3=>.tup [.int 3,.tup [.tup [.int 7,.int 0],.tup [.int 0,.int 0]]]| .stf=>.tup [.lst [.str [74]],eY]
noncomputable def Cm.v:Cm->V
 | .no=>.none| .bl=>.str []| .blk=>.str [66,76,75]
noncomputable def nA:S:=[65]
noncomputable def nB:S:=[66]
noncomputable def nC:S:=[67]
noncomputable def nI:S:=[73]
noncomputable def yC:S:=[83,73,78]
noncomputable def nJ:S:=[74]
set_option genCtorIdx true in
inductive Nm where
 |a|b|c|i|s|j
 deriving DecidableEq
structure T where
 a:NS
 b:NS
 c:NS
 i:NS
 s:NS
 j:NS
 so:List S
 MV:List S
 kh:List S
 kM:List S
 MW:List S
 MX:List S
noncomputable def Mq:S:=bX
noncomputable def Mr:S:=cu
noncomputable def BN:S:=cN
noncomputable def Ms:S:=bL
noncomputable def Pq:S:=bO
noncomputable def Pr:S:=b9
noncomputable def Pu:S:=fO
noncomputable def Pw:S:=aJ
noncomputable def Px:S:=cg
noncomputable def lI(n:S):Option Sy->By
 |none=>.free
 |some s=>.dict [(Mq,some (.str n)),(Mr,some s.kl.kind),(BN,some s.kl.len),(Ms,some s.dims.v),(Pq,some (.str s.use.s)),(Pr,some (.bool s.bF)),(Pu,some s.val.v),(Pw,some s.fV.v),(Px,some (.bool s.d9))]
  [Mq,Mr,BN,Ms,Pq,Pr,Pu,Pw,Px]
noncomputable def qc:Bool->Option V
 |true=>some (.bool true)
 |false=>none
noncomputable def oE(d:Nat):Option Sy->Option V
 |none=>none
 |some _=>some (.inst 558 d)
noncomputable def OS:Option Vl->Option V
 |none=>none
 |some v=>some v.v
noncomputable def jP(va vb vc vi vs vj:Option V)(o:List S):By:=.dict [(nA,va),(nB,vb),(nC,vc),(nI,vi),(yC,vs),(nJ,vj)] o
structure Hd where
 c0:By
 c1:By
 c2:By
 c3:By
 c4:By
 c5:By
 f0:By
 f1:By
 f2:By
 f3:By
 f4:By
 f5:By
 c12:By
 RA:By
 I2:By
 EF:By
noncomputable def BO:By:=.dict [(iA,some (.int 32)),(dP,some (.int 7)),(dF,some (.int 15)),(b6,some (.int 38)),(kZ,some (.int 1000000)),(eN,some (.int 19)),(iZ,some (.int 72)),(k9,some (.int 40))]
 [iA,dP,dF,b6,kZ,eN,iZ,k9]
noncomputable def J4:By:=.dict [(gD,some (.ref 18)),(jm,some (.ref 19))] [gD,jm]
noncomputable def Py(imp:Bool):V:=match imp with
 |true=>.tup [.int 5,.tup [.str cz,.int 3]]
 |false=>.tup [.int 1,.none]
noncomputable def Ds(imp:Bool):By:=.list ([.tup [.int 1,.none],.tup [.int 1,.none],Py imp]++rep 5 [.tup [.int 1,.none]]++rep 6 [.tup [.int 0,.none]]++rep 12 [.tup [.int 1,.none]])
noncomputable def Gz(imp:Bool):By:=.list ([.bool false,.bool false,.bool imp]++rep 23 [.bool false])
noncomputable def NH:By:=.dict [(aX,some (.inst 103 17)),(cM,some (.fn 868)),(gH,some (.inst 772 16)),(br,some (.ref 21)),(gF,some (.ref 22)),(bU,some (.ref 23)),(bw,some (.ref 24)),(aV,some (.ref 25)),(cj,some (.ref 26)),(gV,some .jl),(iI,some .jl),(iB,some (.lst [])),(jo,some .jl)]
 [aX,cM,gH,br,gF,bU,bw,aV,cj,gV,iI,iB,jo]
noncomputable def bE(h:Hd)(imp:Bool)(t:T)(left:Nat)(lk:List Nat):G:=⟨[(0,h.c0),(1,h.c1),(2,h.c2),(3,h.c3),(4,h.c4),(5,h.c5),(100,h.f0),(101,h.f1),(102,h.f2),(103,h.f3),(104,h.f4),(105,h.f5),(12,h.c12),(13,h.RA),(14,h.I2),(15,h.EF),
 (16,BO),(17,J4),(18,Ds imp),(19,Gz imp),(20,NH),
 (21,jP (oE 30 t.a.sy) (oE 31 t.b.sy) (oE 32 t.c.sy) (oE 33 t.i.sy) (oE 34 t.s.sy) (oE 35 t.j.sy) t.so),
 (22,jP (qc t.a.ty) (qc t.b.ty) (qc t.c.ty) (qc t.i.ty) (qc t.s.ty) (qc t.j.ty) t.MV),
 (23,jP (qc t.a.ap) (qc t.b.ap) (qc t.c.ap) (qc t.i.ap) (qc t.s.ap) (qc t.j.ap) t.kh),
 (24,jP (qc t.a.ca) (qc t.b.ca) (qc t.c.ca) (qc t.i.ca) (qc t.s.ca) (qc t.j.ca) t.kM),
 (25,jP (qc t.a.ex) (qc t.b.ex) (qc t.c.ex) (qc t.i.ex) (qc t.s.ex) (qc t.j.ex) t.MW),
 (26,jP (OS t.a.co) (OS t.b.co) (OS t.c.co) (OS t.i.co) (OS t.s.co) (OS t.j.co) t.MX),
 (30,lI nA t.a.sy),(31,lI nB t.b.sy),(32,lI nC t.c.sy),(33,lI nI t.i.sy),(34,lI yC t.s.sy),(35,lI nJ t.j.sy)],left,lk⟩
noncomputable def Nm.str:Nm->S
 | .a=>nA| .b=>nB| .c=>nC| .i=>nI| .s=>yC| .j=>nJ
noncomputable def T.get(t:T):Nm->NS
 | .a=>t.a| .b=>t.b| .c=>t.c| .i=>t.i| .s=>t.s| .j=>t.j
noncomputable def T.set(t:T)(n:Nm)(x:NS):T:=match n with
 | .a=>{t with a:=x}| .b=>{t with b:=x}| .c=>{t with c:=x}| .i=>{t with i:=x}| .s=>{t with s:=x}| .j=>{t with j:=x}
noncomputable def qX(was:Bool)(n:S)(l:List S):List S:=match was with
 |false=>l++[n]
 |true=>l
noncomputable def T.aY(t:T)(n:Nm)(x:Sy):T:={t.set n {t.get n with sy:=some x}with so:=qX (t.get n).sy.isSome n.str t.so}
noncomputable def T.uC(t:T)(n:Nm):T:={t.set n {t.get n with ty:=true}with MV:=qX (t.get n).ty n.str t.MV}
noncomputable def T.pg(t:T)(n:Nm):T:={t.set n {t.get n with ap:=true}with kh:=qX (t.get n).ap n.str t.kh}
noncomputable def T.pn(t:T)(n:Nm):T:={t.set n {t.get n with ca:=true}with kM:=qX (t.get n).ca n.str t.kM}
noncomputable def T.yD(t:T)(n:Nm):T:={t.set n {t.get n with ex:=true}with MW:=qX (t.get n).ex n.str t.MW}
noncomputable def T.yE(t:T)(n:Nm)(v:Vl):T:={t.set n {t.get n with co:=some v}with MX:=qX (t.get n).co.isSome n.str t.MX}
noncomputable def bg:V:=.inst 579 20
noncomputable def V8(n:Nm)(imp:Bool):Sy:=match n with
 | .c=>match imp with
  |true=>⟨.c3,.d0,.var,false,.no,.no,false⟩
  |false=>⟨.k1,.d0,.var,false,.no,.no,false⟩
 | .i=>⟨.k0,.d0,.var,false,.no,.no,false⟩
 | .j=>⟨.k0,.d0,.var,false,.no,.no,false⟩
 |_=>⟨.k1,.d0,.var,false,.no,.no,false⟩
noncomputable def NS.sym(x:NS)(n:Nm)(imp:Bool):Sy:=match x.sy with
 |some s=>s
 |none=>V8 n imp
noncomputable def T.sym(t:T)(n:Nm)(imp:Bool):Sy:=(t.get n).sym n imp
noncomputable def T.need(t:T)(n:Nm)(imp:Bool):T:=t.aY n (t.sym n imp)
noncomputable def kH:Nm->V
 | .a=>.inst 558 30| .b=>.inst 558 31| .c=>.inst 558 32| .i=>.inst 558 33| .s=>.inst 558 34| .j=>.inst 558 35
noncomputable def kI{α:Type}(f:Nm->α):List α:=[f .a,f .b,f .c,f .i,f .s,f .j]
theorem Mt{α:Type}{f g:Nm->α}(h:kI f=kI g)(n:Nm):f n=g n:=by unfold kI at h;simp only[List.cons.injEq,and_true]at h;obtain⟨h1,h2,h3,h4,h5,h6⟩:=h;cases n<;>assumption
theorem ig(t:T)(n:Nm):t.set n (t.get n)=t:=by cases n<;>rfl
theorem NI{t:T}{n:Nm}{x:Sy}(h:(t.get n).sy=some x):t.set n ⟨some x,(t.get n).ty,(t.get n).ap,(t.get n).ca,(t.get n).ex,(t.get n).co⟩=t:=by rw[<- h];exact ig t n
noncomputable def T.gb(t:T)(imp:Bool)(n:Nm)(k:Kl):Option T:=match(t.get n).ty with
 |true=>none
 |false=>match(t.get n).co with
  |some _=>none
  |none=>some ((t.uC n).aY n {t.sym n imp with kl:=k})
noncomputable def T.c7(t:T)(imp:Bool)(n:Nm)(d:Dm):Option T:=match d with
 | .d0=>some (t.need n imp)
 |d=>match(t.sym n imp).use with
  | .var=>some (t.aY n {t.sym n imp with dims:=d,use:=.array})
  |_=>none
noncomputable def gJ:Kl->Option Vl
 | .k0=>some .p0| .k1=>some .p1| .k2=>some .p2| .k3=>some .p3|_=>none
noncomputable def T.addParam(t:T)(imp:Bool)(n:Nm):Option T:=match(t.get n).co with
 |some _=>none
 |none=>match(t.sym n imp).use with
  | .var=>match(t.sym n imp).fV with
   | .no=>match gJ (t.sym n imp).kl with
    |some v=>some ((t.aY n {t.sym n imp with val:=v,use:=.param}).yE n v)
    |none=>none
   |_=>none
  |_=>none
noncomputable def T.addCom(t:T)(imp:Bool)(n:Nm)(c:Cm)(d:Dm):Option T:=match t.c7 imp n d with
 |none=>none
 |some t=>match(t.sym n imp).fV with
  | .no=>match(t.sym n imp).use with
   | .var=>some (t.aY n {t.sym n imp with fV:=c})
   | .array=>some (t.aY n {t.sym n imp with fV:=c})
   |_=>none
  |_=>none
noncomputable def T.qY(t:T)(imp:Bool)(n:Nm):Option T:=match(t.sym n imp).use with
 | .var=>match(t.sym n imp).fV with
  | .no=>some ((t.aY n {t.sym n imp with use:=.proc}).yD n)
  |_=>none
 |_=>none
noncomputable def Nm.isI:Nm->Bool
 | .s=>true| .b=>true|_=>false
noncomputable def T.m8(t:T)(imp:Bool)(n:Nm):Option T:=match(t.sym n imp).use with
 | .var=>match(t.sym n imp).fV with
  | .no=>match n.isI with
   |true=>some (t.aY n {t.sym n imp with use:=.intr})
   |false=>none
  |_=>none
 |_=>none
noncomputable def T.J5(t:T)(imp:Bool)(n:Nm):T:=t.aY n {t.sym n imp with d9:=true}
inductive Sp where
 |type (n:Nm) (k:Kl) (d:Dm)
 |dimension (n:Nm)
 |common (n:Nm) (c:Cm) (d:Dm)
 |param (n:Nm)
 |external (n:Nm)
 |aB (n:Nm)
 |save (n:Nm)
noncomputable def jX:S:=dD
noncomputable def qZ:S:=dX
noncomputable def ir:S:=aJ
noncomputable def bG:S:=aQ
noncomputable def cC:S:=aV
noncomputable def bQ:S:=aP
noncomputable def pq:S:=cW
noncomputable def lJ:S:=aX
noncomputable def Sp.v:Sp->V
 | .type n k d=>.tup [.str jX,k.kind,k.told,.lst [.tup [.str n.str,d.v,.none]]]
 | .dimension n=>.tup [.str qZ,.lst [.tup [.str n.str,Dm.d3.v,.none]]]
 | .common n c d=>.tup [.str ir,c.v,.lst [.tup [.str n.str,d.v,.none]]]
 | .param n=>.tup [.str bG,.lst [.tup [.str n.str,.tup [.str gY,.int 7]]]]
 | .external n=>.tup [.str cC,.lst [.str n.str]]
 | .aB n=>.tup [.str bQ,.lst [.str n.str]]
 | .save n=>.tup [.str pq,.lst [.str n.str]]
noncomputable def T.addSpec(t:T)(imp:Bool):Sp->Option T
 | .type n k d=>match t.gb imp n k with
  |none=>none
  |some t=>t.c7 imp n d
 | .dimension n=>t.c7 imp n .d3
 | .common n c d=>t.addCom imp n c d
 | .param n=>t.addParam imp n
 | .external n=>t.qY imp n
 | .aB n=>t.m8 imp n
 | .save n=>some (t.J5 imp n)
noncomputable def TX(h:Hd)(imp:Bool)(left:Nat)(lk:List Nat)(v:V):Option T->R V
 |none=>.ex
 |some t=>.ok v (bE h imp t left lk)
noncomputable def kJ{α:Type}(f:Nm->α):List α:=[f .a,f .b,f .c,f .i,f .s,f .j]
theorem jh{α:Type}{f g:Nm->α}(h:kI f=kJ g)(n:Nm):f n=g n:=Mt (g:=g) h n
set_option genInjectivity false in
set_option genSizeOf false in
structure iU(γ:Type)where
 δ:Type
 s:γ->δ
 s2:γ->δ
 i:∀{f g:γ},s f=s2 g->f=g
namespace iU
variable{α β γ X Y:Type}
noncomputable def id:iU γ:=⟨γ,λf=>f,λf=>f,λh=>h⟩
noncomputable def f(p:iU β):iU (X->β):=⟨X->p.δ,λf x=>p.s (f x),λf x=>p.s2 (f x),λh=>funext λx=>p.i (congrFun h x)⟩
noncomputable def f2{Z:Type}(p:iU β):iU (X->Z->β):=.f (.f p)
noncomputable def f3{Z:Type}(p:iU β):iU (X->Y->Z->β):=.f (.f (.f p))
noncomputable def sw(p:iU (Y->X->β)):iU (X->Y->β):=⟨p.δ,λf=>p.s λy x=>f x y,λf=>p.s2 λy x=>f x y,λh=>funext λx=>funext λy=>congrFun (congrFun (p.i h) y) x⟩
noncomputable def b(p q:iU β):iU (Bool->β):=⟨p.δ×q.δ,λf=>(p.s (f false),q.s (f true)),λf=>(p.s2 (f false),q.s2 (f true)),λh=>funext λb=>b.rec (p.i (congrArg Prod.fst h)) (q.i (congrArg Prod.snd h))⟩
noncomputable def o(p:iU β)(q:iU (α->β)):iU (Option α->β):=⟨p.δ×q.δ,λf=>(p.s (f none),q.s λx=>f (some x)),λf=>(p.s2 (f none),q.s2 λx=>f (some x)),λh=>funext λb=>b.rec (p.i (congrArg Prod.fst h)) (congrFun (q.i (congrArg Prod.snd h)))⟩
noncomputable def kl(p q:iU β):iU (Kl->β):=⟨(q.δ×q.δ×q.δ)×(q.δ×q.δ×q.δ)×(q.δ×q.δ×p.δ),λf=>((q.s (f .k0),q.s (f .k1),q.s (f .k2)),(q.s (f .k3),q.s (f .k4),q.s (f .c1)),(q.s (f .c2),q.s (f .c3),p.s (f .cs))),λf=>((q.s2 (f .k0),q.s2 (f .k1),q.s2 (f .k2)),(q.s2 (f .k3),q.s2 (f .k4),q.s2 (f .c1)),(q.s2 (f .c2),q.s2 (f .c3),p.s2 (f .cs))),λh=>funext λb=>b.rec
 (q.i (congrArg (·.1.1) h)) (q.i (congrArg (·.1.2.1) h)) (q.i (congrArg (·.1.2.2) h)) (q.i (congrArg (·.2.1.1) h)) (q.i (congrArg (·.2.1.2.1) h)) (q.i (congrArg (·.2.1.2.2) h)) (q.i (congrArg (·.2.2.1) h)) (q.i (congrArg (·.2.2.2.1) h)) (p.i (congrArg (·.2.2.2.2) h))⟩
noncomputable def us(p a r q:iU β):iU (Us->β):=⟨(p.δ×a.δ×q.δ×q.δ)×(q.δ×r.δ×r.δ×r.δ),λf=>((p.s (f .var),a.s (f .array),q.s (f .param),q.s (f .aU)),(q.s (f .intr),r.s (f .proc),r.s (f .func),r.s (f .sub))),λf=>((p.s2 (f .var),a.s2 (f .array),q.s2 (f .param),q.s2 (f .aU)),(q.s2 (f .intr),r.s2 (f .proc),r.s2 (f .func),r.s2 (f .sub))),λh=>funext λb=>b.rec
 (p.i (congrArg (·.1.1) h)) (a.i (congrArg (·.1.2.1) h)) (q.i (congrArg (·.1.2.2.1) h)) (q.i (congrArg (·.1.2.2.2) h)) (q.i (congrArg (·.2.1) h)) (r.i (congrArg (·.2.2.1) h)) (r.i (congrArg (·.2.2.2.1) h)) (r.i (congrArg (·.2.2.2.2) h))⟩
noncomputable def cm(p q:iU β):iU (Cm->β):=⟨p.δ×q.δ×q.δ,λf=>(p.s (f .no),q.s (f .bl),q.s (f .blk)),λf=>(p.s2 (f .no),q.s2 (f .bl),q.s2 (f .blk)),λh=>funext λb=>b.rec
 (p.i (congrArg (·.1) h)) (q.i (congrArg (·.2.1) h)) (q.i (congrArg (·.2.2) h))⟩
noncomputable def dm(p r q:iU β):iU (Dm->β):=⟨p.δ×q.δ×r.δ×q.δ,λf=>(p.s (f .d0),q.s (f .d1),r.s (f .d2),q.s (f .d3)),λf=>(p.s2 (f .d0),q.s2 (f .d1),r.s2 (f .d2),q.s2 (f .d3)),λh=>funext λb=>b.rec
 (p.i (congrArg (·.1) h)) (q.i (congrArg (·.2.1) h)) (r.i (congrArg (·.2.2.1) h)) (q.i (congrArg (·.2.2.2) h))⟩
noncomputable def sy(p:iU (Bool->Bool->Us->Cm->Dm->Kl->Vl->β)):iU (Sy->β):=⟨p.δ,λf=>p.s λsv du us cm dm kl vl=>f ⟨kl,dm,us,du,vl,cm,sv⟩,λf=>p.s2 λsv du us cm dm kl vl=>f ⟨kl,dm,us,du,vl,cm,sv⟩,λh=>funext λx=>congrFun (congrFun (congrFun (congrFun (congrFun (congrFun (congrFun (p.i h) x.d9) x.bF) x.use) x.fV) x.dims) x.kl) x.val⟩
noncomputable def ns(p:iU (Bool->Option Vl->Option Sy->Bool->Bool->Bool->β)):iU (NS->β):=⟨p.δ,λf=>p.s λty co sy ex ca ap=>f ⟨sy,ty,ap,ca,ex,co⟩,λf=>p.s2 λty co sy ex ca ap=>f ⟨sy,ty,ap,ca,ex,co⟩,λh=>funext λx=>congrFun (congrFun (congrFun (congrFun (congrFun (congrFun (p.i h) x.ty) x.co) x.sy) x.ex) x.ca) x.ap⟩
end iU
theorem go{β:Type}{L R:T->Nm->Bool->β}(p:iU (NS->Bool->List β))(h:∀t:T,(p.s λx imp=>kI λnm=>L (t.set nm x) nm imp)=p.s2 λx imp=>kJ λnm=>R (t.set nm x) nm imp)(t:T)(nm:Nm)(imp:Bool):L t nm imp=R t nm imp:=by have e:=jh (congrFun (congrFun (p.i (h t)) (t.get nm)) imp) nm;rw[ig]at e;exact e
theorem Sl{κ β:Type}{L R:T->Nm->Bool->κ->β}(p:iU (κ->NS->Bool->List β))(h:∀t:T,(p.s λk x imp=>kI λnm=>L (t.set nm x) nm imp k)=p.s2 λk x imp=>kJ λnm=>R (t.set nm x) nm imp k)(t:T)(nm:Nm)(imp:Bool)(k:κ):L t nm imp k=R t nm imp k:=by have e:=jh (congrFun (congrFun (congrFun (p.i (h t)) k) (t.get nm)) imp) nm;rw[ig]at e;exact e
theorem So{β:Type}{L R:T->Nm->Bool->β}(m m':Nm)(p:iU (NS->NS->NS->Bool->List β))(h:∀t:T,(p.s λz y x imp=>kI λnm=>L (((t.set m z).set m' y).set nm x) nm imp)=p.s2 λz y x imp=>kJ λnm=>R (((t.set m z).set m' y).set nm x) nm imp)(t:T)(nm:Nm)(imp:Bool):L t nm imp=R t nm imp:=by have e:=jh (congrFun (congrFun (congrFun (congrFun (p.i (h t)) (t.get m)) (t.get m')) (t.get nm)) imp) nm;rw[ig,ig,ig]at e;exact e
theorem xh{β:Type}{L R:T->Bool->β}(m m' m'':Nm)(p:iU (NS->NS->NS->Bool->β))(h:∀t:T,(p.s λz y x imp=>L (((t.set m z).set m' y).set m'' x) imp)=p.s2 λz y x imp=>R (((t.set m z).set m' y).set m'' x) imp)(t:T)(imp:Bool):L t imp=R t imp:=by have e:=congrFun (congrFun (congrFun (congrFun (p.i (h t)) (t.get m)) (t.get m')) (t.get m'')) imp;rw[ig,ig,ig]at e;exact e
theorem NJ{β:Type}{L R:T->Nm->Sy->β}(p:iU (Sy->Bool->Bool->Bool->Bool->Option Vl->List β))(h:∀t:T,(p.s λx ty ex ca ap co=>kI λnm=>L (t.set nm ⟨some x,ty,ap,ca,ex,co⟩) nm x)=p.s2 λx ty ex ca ap co=>kJ λnm=>R (t.set nm ⟨some x,ty,ap,ca,ex,co⟩) nm x)
  (t:T) (nm:Nm) (x:Sy) (hx:(t.get nm).sy=some x):L t nm x=R t nm x:=by
 have e:=jh (congrFun (congrFun (congrFun (congrFun (congrFun (congrFun (p.i (h t)) x) (t.get nm).ty) (t.get nm).ex) (t.get nm).ca) (t.get nm).ap) (t.get nm).co) nm;rw[NI hx]at e;exact e
section
variable(h:Hd)(left n:Nat)
theorem yF:∀(t:T)(nm:Nm)(imp:Bool),(fs aA (n+90)).c (bE h imp t left []) (.fn 625) [bg,.str nm.str,.tup [.str gY,.int 7]]=TX h imp left [] .none (t.addParam imp nm):=
 go (.ns (.f (.o (.o (.f3 (.b .id .id)) (.sy (.f2 (.us (.cm (.f (.kl .id .id)) .id) .id .id .id)))) (.f (.o (.f3 (.b .id .id)) .id))))) λt=>by kernel_rfl
end
end Mine
namespace Mine
inductive St where
 |assign (n:Nm)
 |pP (n:Nm)
 |call (n:Nm)
 |read (n:Nm)
noncomputable def Pz:S:=bX
noncomputable def Ra:S:=[114,101,102]
noncomputable def Mu:S:=[99,97,108,108]
noncomputable def PA(n:Nm)(x:V):V:=.tup [.str Ra,.str n.str,.lst [x]]
noncomputable def NK:V:=.tup [.str gY,.int 1]
noncomputable def U0(n:Nm):V:=.tup [.str Pz,.str n.str]
noncomputable def St.v:St->V
 | .assign n=>.tup [.str [97,115,115,105,103,110],U0 .a,PA n NK]
 | .pP n=>.tup [.str [108,105,102],.tup [.str [98,105,110],.str [46,76,84,46],U0 n,NK],.tup [.str Mu,.str nJ,.lst [U0 .i]]]
 | .call n=>.tup [.str Mu,.str n.str,.lst []]
 | .read n=>.tup [.str [114,101,97,100],.dct [([85,78,73,84],.str [42]),([70,77,84],.str [42])],.lst [.tup [.str [105,100,111],.lst [PA n (U0 .i)],.str nI,NK,.tup [.str gY,.int 2],.none]]]
noncomputable def T.note(t:T)(imp:Bool):St->T
 | .assign n=>((t.need .a imp).need n imp).pg n
 | .pP n=>(((t.need n imp).need .j imp).pn .j).need .i imp
 | .call n=>(t.need n imp).pn n
 | .read n=>((((t.need .i imp).need n imp).pg n).need .i imp)
noncomputable def T.addSt(t:T)(imp:Bool)(n:Nm):Option T:=match(t.sym n imp).use with
 | .var=>match(t.sym n imp).bF with
  |false=>match(t.sym n imp).fV with
   | .no=>match(t.need n imp).need .j imp with
    |t=>some (t.aY n {t.sym n imp with use:=.aU,val:=.stf})
   |_=>none
  |true=>none
 |_=>none
noncomputable def T.mark(t:T)(imp:Bool):List Nm->T
 |[]=>t
 |n::r=>(t.aY n {t.sym n imp with bF:=true}).mark imp r
noncomputable def T.setCalled(t:T)(n:Nm)(x:Sy):Option T:=match x.use with
 | .var=>match x.fV with
  | .no=>match(t.get n).ty with
   |false=>some (t.aY n {x with use:=.sub})
   |true=>none
  |_=>none
 | .proc=>match x.fV with
  | .no=>match(t.get n).ty with
   |false=>some (t.aY n {x with use:=.sub})
   |true=>none
  |_=>none
 |_=>none
noncomputable def T.setApplied(t:T)(n:Nm)(x:Sy):Option T:=match x.use with
 | .array=>some t
 | .aU=>some t
 | .intr=>some t
 | .param=>none
 |_=>match x.fV with
  | .no=>match(t.get n).ca with
   |true=>none
   |false=>match(t.get n).ex with
    |true=>some (t.aY n {x with use:=.func})
    |false=>match x.bF with
     |true=>some (t.aY n {x with use:=.func})
     |false=>match n.isI with
      |true=>some (t.aY n {x with use:=.intr})
      |false=>some (t.aY n {x with use:=.func})
  |_=>none
noncomputable def BP:Us->Bool
 | .var=>true| .array=>true|_=>false
noncomputable def Sy.Dt(x:Sy):Bool:=match x.d9 with
 |false=>true
 |true=>match x.fV with
  | .no=>BP x.use
  |_=>false
noncomputable def Sy.Du(x:Sy):Bool:=match x.bF with
 |true=>match x.fV with
  | .no=>match x.d9 with
   |true=>false
   |false=>match x.use with
    | .param=>false| .aU=>false| .intr=>false|_=>true
  |_=>false
 |false=>match x.dims with
  | .d2=>false
  |_=>match x.kl with
   | .cs=>!BP x.use
   |_=>true
noncomputable def Sy.check(x:Sy):Bool:=match x.Dt with
 |true=>x.Du
 |false=>false
noncomputable def Wi(h:Hd)(imp:Bool)(t:T)(left:Nat)(lk:List Nat)(b:Bool):R V:=match b with
 |true=>.ok .none (bE h imp t left lk)
 |false=>.ex
section
variable(h:Hd)(left n:Nat)
noncomputable def AT(d:Dm)(k:Kl):Prop:=∀(t:T)(nm:Nm)(imp:Bool),(fs aA (n+80)).c (bE h imp t left []) (.fn 663) [bg,(Sp.type nm k d).v]=TX h imp left [] .none (t.addSpec imp (.type nm k d))
theorem J6:AT h left n .d0 .k0:=go (.ns (.b (.o (.o (.f3 (.b .id .id)) .id) .id) .id)) λt=>by kernel_rfl
theorem J7:AT h left n .d0 .k1:=go (.ns (.b (.o (.o (.f3 (.b .id .id)) .id) .id) .id)) λt=>by kernel_rfl
theorem J8:AT h left n .d0 .k2:=go (.ns (.b (.o (.o (.f3 (.b .id .id)) .id) .id) .id)) λt=>by kernel_rfl
theorem J9:AT h left n .d0 .k3:=go (.ns (.b (.o (.o (.f3 (.b .id .id)) .id) .id) .id)) λt=>by kernel_rfl
theorem Ka:AT h left n .d0 .k4:=go (.ns (.b (.o (.o (.f3 (.b .id .id)) .id) .id) .id)) λt=>by kernel_rfl
theorem Kc:AT h left n .d0 .c1:=go (.ns (.b (.o (.o (.f3 (.b .id .id)) .id) .id) .id)) λt=>by kernel_rfl
theorem Ke:AT h left n .d0 .c2:=go (.ns (.b (.o (.o (.f3 (.b .id .id)) .id) .id) .id)) λt=>by kernel_rfl
theorem Kg:AT h left n .d0 .c3:=go (.ns (.b (.o (.o (.f3 (.b .id .id)) .id) .id) .id)) λt=>by kernel_rfl
theorem Kh:AT h left n .d0 .cs:=go (.ns (.b (.o (.o (.f3 (.b .id .id)) .id) .id) .id)) λt=>by kernel_rfl
theorem q7(k:Kl):AT h left n .d0 k:=Kl.casesOn (motive:=AT h left n .d0) k (J6 h left n) (J7 h left n) (J8 h left n) (J9 h left n) (Ka h left n) (Kc h left n) (Ke h left n) (Kg h left n) (Kh h left n)
theorem Km:AT h left n .d1 .k0:=go (.ns (.b (.o (.o (.f3 (.b .id .id)) (.sy (.f2 (.us .id .id .id .id)))) .id) .id)) λt=>by kernel_rfl
theorem Kn:AT h left n .d1 .k1:=go (.ns (.b (.o (.o (.f3 (.b .id .id)) (.sy (.f2 (.us .id .id .id .id)))) .id) .id)) λt=>by kernel_rfl
theorem Ko:AT h left n .d1 .k2:=go (.ns (.b (.o (.o (.f3 (.b .id .id)) (.sy (.f2 (.us .id .id .id .id)))) .id) .id)) λt=>by kernel_rfl
theorem Kp:AT h left n .d1 .k3:=go (.ns (.b (.o (.o (.f3 (.b .id .id)) (.sy (.f2 (.us .id .id .id .id)))) .id) .id)) λt=>by kernel_rfl
theorem Kq:AT h left n .d1 .k4:=go (.ns (.b (.o (.o (.f3 (.b .id .id)) (.sy (.f2 (.us .id .id .id .id)))) .id) .id)) λt=>by kernel_rfl
theorem Kr:AT h left n .d1 .c1:=go (.ns (.b (.o (.o (.f3 (.b .id .id)) (.sy (.f2 (.us .id .id .id .id)))) .id) .id)) λt=>by kernel_rfl
theorem Ks:AT h left n .d1 .c2:=go (.ns (.b (.o (.o (.f3 (.b .id .id)) (.sy (.f2 (.us .id .id .id .id)))) .id) .id)) λt=>by kernel_rfl
theorem Ku:AT h left n .d1 .c3:=go (.ns (.b (.o (.o (.f3 (.b .id .id)) (.sy (.f2 (.us .id .id .id .id)))) .id) .id)) λt=>by kernel_rfl
theorem Kv:AT h left n .d1 .cs:=go (.ns (.b (.o (.o (.f3 (.b .id .id)) (.sy (.f2 (.us .id .id .id .id)))) .id) .id)) λt=>by kernel_rfl
theorem q8(k:Kl):AT h left n .d1 k:=Kl.casesOn (motive:=AT h left n .d1) k (Km h left n) (Kn h left n) (Ko h left n) (Kp h left n) (Kq h left n) (Kr h left n) (Ks h left n) (Ku h left n) (Kv h left n)
theorem Kw:AT h left n .d2 .k0:=go (.ns (.b (.o (.o (.f3 (.b .id .id)) (.sy (.f2 (.us .id .id .id .id)))) .id) .id)) λt=>by kernel_rfl
theorem Ky:AT h left n .d2 .k1:=go (.ns (.b (.o (.o (.f3 (.b .id .id)) (.sy (.f2 (.us .id .id .id .id)))) .id) .id)) λt=>by kernel_rfl
theorem Kz:AT h left n .d2 .k2:=go (.ns (.b (.o (.o (.f3 (.b .id .id)) (.sy (.f2 (.us .id .id .id .id)))) .id) .id)) λt=>by kernel_rfl
theorem KA:AT h left n .d2 .k3:=go (.ns (.b (.o (.o (.f3 (.b .id .id)) (.sy (.f2 (.us .id .id .id .id)))) .id) .id)) λt=>by kernel_rfl
theorem KC:AT h left n .d2 .k4:=go (.ns (.b (.o (.o (.f3 (.b .id .id)) (.sy (.f2 (.us .id .id .id .id)))) .id) .id)) λt=>by kernel_rfl
theorem KD:AT h left n .d2 .c1:=go (.ns (.b (.o (.o (.f3 (.b .id .id)) (.sy (.f2 (.us .id .id .id .id)))) .id) .id)) λt=>by kernel_rfl
theorem KG:AT h left n .d2 .c2:=go (.ns (.b (.o (.o (.f3 (.b .id .id)) (.sy (.f2 (.us .id .id .id .id)))) .id) .id)) λt=>by kernel_rfl
theorem KH:AT h left n .d2 .c3:=go (.ns (.b (.o (.o (.f3 (.b .id .id)) (.sy (.f2 (.us .id .id .id .id)))) .id) .id)) λt=>by kernel_rfl
theorem KJ:AT h left n .d2 .cs:=go (.ns (.b (.o (.o (.f3 (.b .id .id)) (.sy (.f2 (.us .id .id .id .id)))) .id) .id)) λt=>by kernel_rfl
theorem q9(k:Kl):AT h left n .d2 k:=Kl.casesOn (motive:=AT h left n .d2) k (Kw h left n) (Ky h left n) (Kz h left n) (KA h left n) (KC h left n) (KD h left n) (KG h left n) (KH h left n) (KJ h left n)
theorem sX:∀(t:T)(nm:Nm)(imp:Bool),(fs aA (n+80)).c (bE h imp t (left) []) (.fn 663) [bg,(Sp.dimension nm).v]=TX h imp left [] .none (t.addSpec imp (.dimension nm)):=
 go (.ns (.f2 (.o (.f3 (.b .id .id)) (.sy (.f2 (.us .id .id .id .id)))))) λt=>by kernel_rfl
section
variable(c:Cm)
theorem sY:∀(t:T)(nm:Nm)(imp:Bool)(d:Dm),(fs aA (n+80)).c (bE h imp t (left+2) []) (.fn 663) [bg,(Sp.common nm c d).v]=TX h imp left [] .none (t.addSpec imp (.common nm c d)):=
 Sl (.dm (.ns (.f2 (.o (.f3 (.b .id .id)) (.sy (.f2 (.sw (.cm (.us .id .id .id .id) .id))))))) (.ns (.f2 (.o (.f3 (.b .id .id)) (.sy (.f2 (.us (.cm .id .id) .id .id .id)))))) (.ns (.f2 (.o (.f3 (.b .id .id)) (.sy (.f2 (.us (.cm .id .id) .id .id .id))))))) λt=>by kernel_rfl
end
theorem sZ:∀(t:T)(nm:Nm)(imp:Bool),(fs aA (n+100)).c (bE h imp t (left) []) (.fn 663) [bg,(Sp.param nm).v]=TX h imp left [] .none (t.addSpec imp (.param nm)):=
 go (.ns (.f (.o (.o (.f3 (.b .id .id)) (.sy (.f2 (.us (.cm (.f (.kl .id .id)) .id) .id .id .id)))) (.f (.o (.f3 (.b .id .id)) .id))))) λt=>by kernel_rfl
theorem s6:∀(t:T)(nm:Nm)(imp:Bool),(fs aA (n+80)).c (bE h imp t (left) []) (.fn 663) [bg,(Sp.external nm).v]=TX h imp left [] .none (t.addSpec imp (.external nm)):=
 go (.ns (.f2 (.o (.b (.f2 (.b .id .id)) (.f2 (.b .id .id))) (.sy (.f2 (.us (.cm (.f3 (.b .id .id)) .id) .id .id .id)))))) λt=>by kernel_rfl
theorem rm:∀(t:T)(nm:Nm)(imp:Bool),(fs aA (n+80)).c (bE h imp t (left) []) (.fn 663) [bg,(Sp.aB nm).v]=TX h imp left [] .none (t.addSpec imp (.aB nm)):=
 go (.ns (.f2 (.o (.f3 (.b .id .id)) (.sy (.f2 (.us (.cm .id .id) .id .id .id)))))) λt=>by kernel_rfl
theorem rz:∀(t:T)(nm:Nm)(imp:Bool),(fs aA (n+80)).c (bE h imp t (left+1) []) (.fn 663) [bg,(Sp.save nm).v]=TX h imp left [] .none (t.addSpec imp (.save nm)):=
 go (.ns (.f2 (.o (.f3 (.b .id .id)) .id))) λt=>by kernel_rfl
noncomputable def NT(f:Nm->St)(nm:Nm):Prop:=∀(t:T)(imp:Bool),(fs aA (n+80)).c (bE h imp t left [4]) (.fn 677) [bg,(f nm).v]=.ok .none (bE h imp (t.note imp (f nm)) left [4])
theorem Dv:NT h left n .assign .a:=xh .a .a .a (.f (.ns (.f2 (.o (.f3 (.ns (.f2 (.o (.f2 (.b (.b .id .id) (.b .id .id))) (.f (.f2 (.b (.b .id .id) (.b .id .id)))))))) (.f (.f3 (.ns (.f2 (.o (.f2 (.b (.b .id .id) (.b .id .id))) (.f (.f2 (.b (.b .id .id) (.b .id .id))))))))))))) λt=>by kernel_rfl
theorem Dw:NT h left n .assign .b:=xh .a .a .b (.f (.ns (.f2 (.o (.f3 (.ns (.f2 (.o (.f2 (.b (.b .id .id) (.b .id .id))) (.f (.f2 (.b (.b .id .id) (.b .id .id)))))))) (.f (.f3 (.ns (.f2 (.o (.f2 (.b (.b .id .id) (.b .id .id))) (.f (.f2 (.b (.b .id .id) (.b .id .id))))))))))))) λt=>by kernel_rfl
theorem Dy:NT h left n .assign .c:=xh .a .a .c (.f (.ns (.f2 (.o (.f3 (.ns (.f2 (.o (.f2 (.b (.b .id .id) (.b .id .id))) (.f (.f2 (.b (.b .id .id) (.b .id .id)))))))) (.f (.f3 (.ns (.f2 (.o (.f2 (.b (.b .id .id) (.b .id .id))) (.f (.f2 (.b (.b .id .id) (.b .id .id))))))))))))) λt=>by kernel_rfl
theorem Dz:NT h left n .assign .i:=xh .a .a .i (.f (.ns (.f2 (.o (.f3 (.ns (.f2 (.o (.f2 (.b (.b .id .id) (.b .id .id))) (.f (.f2 (.b (.b .id .id) (.b .id .id)))))))) (.f (.f3 (.ns (.f2 (.o (.f2 (.b (.b .id .id) (.b .id .id))) (.f (.f2 (.b (.b .id .id) (.b .id .id))))))))))))) λt=>by kernel_rfl
theorem DA:NT h left n .assign .s:=xh .a .a .s (.f (.ns (.f2 (.o (.f3 (.ns (.f2 (.o (.f2 (.b (.b .id .id) (.b .id .id))) (.f (.f2 (.b (.b .id .id) (.b .id .id)))))))) (.f (.f3 (.ns (.f2 (.o (.f2 (.b (.b .id .id) (.b .id .id))) (.f (.f2 (.b (.b .id .id) (.b .id .id))))))))))))) λt=>by kernel_rfl
theorem DB:NT h left n .assign .j:=xh .a .a .j (.f (.ns (.f2 (.o (.f3 (.ns (.f2 (.o (.f2 (.b (.b .id .id) (.b .id .id))) (.f (.f2 (.b (.b .id .id) (.b .id .id)))))))) (.f (.f3 (.ns (.f2 (.o (.f2 (.b (.b .id .id) (.b .id .id))) (.f (.f2 (.b (.b .id .id) (.b .id .id))))))))))))) λt=>by kernel_rfl
theorem rA(t:T)(nm:Nm)(imp:Bool):(fs aA (n+80)).c (bE h imp t left [4]) (.fn 677) [bg,(St.assign nm).v]=.ok .none (bE h imp (t.note imp (.assign nm)) left [4]):=Nm.casesOn (motive:=NT h left n .assign) nm (Dv h left n) (Dw h left n) (Dy h left n) (Dz h left n) (DA h left n) (DB h left n) t imp
theorem Ah:∀(t:T)(imp:Bool),(fs aA (n+80)).c (bE h imp t left [4]) (.fn 677) [bg,(St.pP .a).v]=.ok .none (bE h imp (t.note imp (.pP .a)) left [4]):=
 xh .j .i .a (.ns (.f2 (.o (.f (.b (.f (.ns (.f2 (.o (.f3 (.ns (.f2 (.o .id .id)))) (.f (.f3 (.ns (.f2 (.o .id .id))))))))) (.f (.ns (.f2 (.o (.f3 (.ns (.f2 (.o .id .id)))) (.f (.f3 (.ns (.f2 (.o .id .id))))))))))) (.f (.f (.b (.f (.ns (.f2 (.o (.f3 (.ns (.f2 (.o .id .id)))) (.f (.f3 (.ns (.f2 (.o .id .id))))))))) (.f (.ns (.f2 (.o (.f3 (.ns (.f2 (.o .id .id)))) (.f (.f3 (.ns (.f2 (.o .id .id))))))))))))))) λt=>by kernel_rfl
theorem Ai:∀(t:T)(imp:Bool),(fs aA (n+80)).c (bE h imp t left [4]) (.fn 677) [bg,(St.pP .b).v]=.ok .none (bE h imp (t.note imp (.pP .b)) left [4]):=
 xh .j .i .b (.ns (.f2 (.o (.f (.b (.f (.ns (.f2 (.o (.f3 (.ns (.f2 (.o .id .id)))) (.f (.f3 (.ns (.f2 (.o .id .id))))))))) (.f (.ns (.f2 (.o (.f3 (.ns (.f2 (.o .id .id)))) (.f (.f3 (.ns (.f2 (.o .id .id))))))))))) (.f (.f (.b (.f (.ns (.f2 (.o (.f3 (.ns (.f2 (.o .id .id)))) (.f (.f3 (.ns (.f2 (.o .id .id))))))))) (.f (.ns (.f2 (.o (.f3 (.ns (.f2 (.o .id .id)))) (.f (.f3 (.ns (.f2 (.o .id .id))))))))))))))) λt=>by kernel_rfl
theorem Aj:∀(t:T)(imp:Bool),(fs aA (n+80)).c (bE h imp t left [4]) (.fn 677) [bg,(St.pP .c).v]=.ok .none (bE h imp (t.note imp (.pP .c)) left [4]):=
 xh .j .i .c (.ns (.f2 (.o (.f (.b (.f (.ns (.f2 (.o (.f3 (.ns (.f2 (.o (.f3 (.b .id .id)) .id)))) (.f (.f3 (.ns (.f2 (.o (.f3 (.b .id .id)) .id))))))))) (.f (.ns (.f2 (.o (.f3 (.ns (.f2 (.o (.f3 (.b .id .id)) .id)))) (.f (.f3 (.ns (.f2 (.o (.f3 (.b .id .id)) .id))))))))))) (.f (.f (.b (.f (.ns (.f2 (.o (.f3 (.ns (.f2 (.o (.f3 (.b .id .id)) .id)))) (.f (.f3 (.ns (.f2 (.o (.f3 (.b .id .id)) .id))))))))) (.f (.ns (.f2 (.o (.f3 (.ns (.f2 (.o (.f3 (.b .id .id)) .id)))) (.f (.f3 (.ns (.f2 (.o (.f3 (.b .id .id)) .id))))))))))))))) λt=>by kernel_rfl
theorem Ak:∀(t:T)(imp:Bool),(fs aA (n+80)).c (bE h imp t left [4]) (.fn 677) [bg,(St.pP .i).v]=.ok .none (bE h imp (t.note imp (.pP .i)) left [4]):=
 xh .j .i .i (.ns (.f2 (.o (.f (.b (.f (.f (.ns (.f2 (.o .id .id))))) (.f (.f (.ns (.f2 (.o .id .id))))))) (.f (.f (.b (.f (.f (.ns (.f2 (.o .id .id))))) (.f (.f (.ns (.f2 (.o .id .id))))))))))) λt=>by kernel_rfl
theorem Am:∀(t:T)(imp:Bool),(fs aA (n+80)).c (bE h imp t left [4]) (.fn 677) [bg,(St.pP .s).v]=.ok .none (bE h imp (t.note imp (.pP .s)) left [4]):=
 xh .j .i .s (.ns (.f2 (.o (.f (.b (.f (.ns (.f2 (.o (.f3 (.ns (.f2 (.o .id .id)))) (.f (.f3 (.ns (.f2 (.o .id .id))))))))) (.f (.ns (.f2 (.o (.f3 (.ns (.f2 (.o .id .id)))) (.f (.f3 (.ns (.f2 (.o .id .id))))))))))) (.f (.f (.b (.f (.ns (.f2 (.o (.f3 (.ns (.f2 (.o .id .id)))) (.f (.f3 (.ns (.f2 (.o .id .id))))))))) (.f (.ns (.f2 (.o (.f3 (.ns (.f2 (.o .id .id)))) (.f (.f3 (.ns (.f2 (.o .id .id))))))))))))))) λt=>by kernel_rfl
theorem An:∀(t:T)(imp:Bool),(fs aA (n+80)).c (bE h imp t left [4]) (.fn 677) [bg,(St.pP .j).v]=.ok .none (bE h imp (t.note imp (.pP .j)) left [4]):=
 xh .j .i .i (.ns (.f2 (.o (.f (.b (.f (.f (.ns (.f2 (.o .id .id))))) (.f (.f (.ns (.f2 (.o .id .id))))))) (.f (.f (.b (.f (.f (.ns (.f2 (.o .id .id))))) (.f (.f (.ns (.f2 (.o .id .id))))))))))) λt=>by kernel_rfl
theorem yG(t:T)(nm:Nm)(imp:Bool):(fs aA (n+80)).c (bE h imp t left [4]) (.fn 677) [bg,(St.pP nm).v]=.ok .none (bE h imp (t.note imp (.pP nm)) left [4]):=by
 cases nm with
 |a=>exact Ah h left n t imp
 |b=>exact Ai h left n t imp
 |c=>exact Aj h left n t imp
 |i=>exact Ak h left n t imp
 |s=>exact Am h left n t imp
 |j=>exact An h left n t imp
theorem v5:∀(t:T)(nm:Nm)(imp:Bool),(fs aA (n+80)).c (bE h imp t left [4]) (.fn 677) [bg,(St.call nm).v]=.ok .none (bE h imp (t.note imp (.call nm)) left [4]):=
 go (.ns (.f2 (.o (.f (.b (.f (.b .id .id)) (.f (.b .id .id)))) (.f (.f (.b (.f (.b .id .id)) (.f (.b .id .id)))))))) λt=>by kernel_rfl
theorem KL:NT h left n .read .a:=xh .i .i .a (.f (.ns (.f2 (.o (.f3 (.ns (.f2 (.o (.f2 (.b (.b .id .id) (.b .id .id))) (.f (.f2 (.b (.b .id .id) (.b .id .id)))))))) (.f (.f3 (.ns (.f2 (.o (.f2 (.b (.b .id .id) (.b .id .id))) (.f (.f2 (.b (.b .id .id) (.b .id .id))))))))))))) λt=>by kernel_rfl
theorem KN:NT h left n .read .b:=xh .i .i .b (.f (.ns (.f2 (.o (.f3 (.ns (.f2 (.o (.f2 (.b (.b .id .id) (.b .id .id))) (.f (.f2 (.b (.b .id .id) (.b .id .id)))))))) (.f (.f3 (.ns (.f2 (.o (.f2 (.b (.b .id .id) (.b .id .id))) (.f (.f2 (.b (.b .id .id) (.b .id .id))))))))))))) λt=>by kernel_rfl
theorem KP:NT h left n .read .c:=xh .i .i .c (.f (.ns (.f2 (.o (.f3 (.ns (.f2 (.o (.f2 (.b (.b .id .id) (.b .id .id))) (.f (.f2 (.b (.b .id .id) (.b .id .id)))))))) (.f (.f3 (.ns (.f2 (.o (.f2 (.b (.b .id .id) (.b .id .id))) (.f (.f2 (.b (.b .id .id) (.b .id .id))))))))))))) λt=>by kernel_rfl
theorem KQ:NT h left n .read .i:=xh .i .i .i (.f (.ns (.f2 (.o (.f3 (.ns (.f2 (.o (.f2 (.b (.b .id .id) (.b .id .id))) (.f (.f2 (.b (.b .id .id) (.b .id .id)))))))) (.f (.f3 (.ns (.f2 (.o (.f2 (.b (.b .id .id) (.b .id .id))) (.f (.f2 (.b (.b .id .id) (.b .id .id))))))))))))) λt=>by kernel_rfl
theorem KR:NT h left n .read .s:=xh .i .i .s (.f (.ns (.f2 (.o (.f3 (.ns (.f2 (.o (.f2 (.b (.b .id .id) (.b .id .id))) (.f (.f2 (.b (.b .id .id) (.b .id .id)))))))) (.f (.f3 (.ns (.f2 (.o (.f2 (.b (.b .id .id) (.b .id .id))) (.f (.f2 (.b (.b .id .id) (.b .id .id))))))))))))) λt=>by kernel_rfl
theorem KS:NT h left n .read .j:=xh .i .i .j (.f (.ns (.f2 (.o (.f3 (.ns (.f2 (.o (.f2 (.b (.b .id .id) (.b .id .id))) (.f (.f2 (.b (.b .id .id) (.b .id .id)))))))) (.f (.f3 (.ns (.f2 (.o (.f2 (.b (.b .id .id) (.b .id .id))) (.f (.f2 (.b (.b .id .id) (.b .id .id))))))))))))) λt=>by kernel_rfl
theorem v7(t:T)(nm:Nm)(imp:Bool):(fs aA (n+80)).c (bE h imp t left [4]) (.fn 677) [bg,(St.read nm).v]=.ok .none (bE h imp (t.note imp (.read nm)) left [4]):=Nm.casesOn (motive:=NT h left n .read) nm (KL h left n) (KN h left n) (KP h left n) (KQ h left n) (KR h left n) (KS h left n) t imp
theorem GA:∀(t:T)(nm:Nm)(imp:Bool),(fs aA (n+80)).c (bE h imp t left [3]) (.fn 670) [bg,.str nm.str,.lst [.str nJ],eY]=TX h imp left [3] .none (t.addSt imp nm):=
 So .j .j (.f (.ns (.f2 (.o (.f3 (.ns (.f2 (.o (.f3 (.b .id .id)) (.sy (.f (.b (.us (.cm .id .id) .id .id .id) (.us .id .id .id .id)))))))) (.f (.f3 (.ns (.f2 (.o (.f3 (.b .id .id)) (.sy (.f (.b (.us (.cm .id .id) .id .id .id) (.us .id .id .id .id))))))))))))) λt=>by kernel_rfl
theorem DC(t:T)(imp:Bool):(fs aA (n+80)).c (bE h imp t left [3]) (.fn 677) [bg,eY]=.ok .none (bE h imp (t.need .j imp) left [3]):=by obtain⟨xa,xb,xc,xi,xs,⟨jsy,jty,jap,jca,jex,jco⟩,so,MV,kh,kM,MW,MX⟩:=t;cases jsy<;>kernel_rfl
section
variable(imp:Bool)
theorem v8:∀(t:T)(nm:Nm)(x:Sy),(t.get nm).sy=some x->(fs aA (n+60)).c (bE h imp t left [24]) (.fn 698) [bg,.str nm.str]=TX h imp left [24] .none (t.setCalled nm x):=
 NJ (.sy (.f2 (.us (.cm (.f3 (.b .id .id)) .id) .id (.cm (.f3 (.b .id .id)) .id) .id))) λt=>by kernel_rfl
theorem s7:∀(t:T)(nm:Nm)(x:Sy),(t.get nm).sy=some x->(fs aA (n+60)).c (bE h imp t left [23]) (.fn 691) [bg,.str nm.str]=TX h imp left [23] .none (t.setApplied nm x):=
 NJ (.sy (.f (.b (.us (.cm (.f3 (.f (.sw (.b (.b .id .id) .id)))) .id) .id (.cm (.f3 (.f (.sw (.b (.b .id .id) .id)))) .id) .id) (.us (.cm (.f3 (.f (.sw (.b (.b .id .id) .id)))) .id) .id (.cm (.f3 (.f (.sw (.b (.b .id .id) .id)))) .id) .id)))) λt=>by kernel_rfl
theorem GB:∀(t:T)(nm:Nm)(x:Sy),(t.get nm).sy=some x->(fs aA (n+60)).c (bE h imp t left [21]) (.fn 712) [bg,kH nm]=Wi h imp t left [21] x.check:=
 NJ (.sy (.b (.b (.sw (.f (.sw (.dm (.sw (.kl (.us .id .id .id .id) .id)) .id (.sw (.kl (.us .id .id .id .id) .id)))))) (.sw (.cm (.us .id .id .id .id) .id))) (.b (.sw (.cm (.us (.dm (.kl .id .id) .id (.kl .id .id)) (.dm (.kl .id .id) .id (.kl .id .id)) .id .id) .id)) (.sw (.cm (.us .id .id .id .id) .id))))) λt=>by kernel_rfl
end
end
noncomputable def Le(l l':Loc):Prop:=∀x v,aT l x=some v->aT l' x=some v
theorem Le.refl(l:Loc):Le l l:=λ_ _ h=>h
theorem Le.set{l l':Loc}(h:Le l l')(x:Nat)(v:V):Le (bY l x v) (bY l' x v):=by
 intro y w hy;unfold bY at *;by_cases e:y=x
 ·subst e;rw[fj]at *;exact hy
 ·rw[gW _ _ e]at *;exact h y w hy
inductive RL{α:Type}(rel:α->α->Prop):R α->R α->Prop
 |st (r:R α):RL rel .st r
 |ok {a a':α} (g:G):rel a a'->RL rel (.ok a g) (.ok a' g)
 |ex:RL rel .ex .ex
 |ask {k:Nat} {c c':Nat->R α}:(∀i,RL rel (c i) (c' i))->RL rel (.ask k c) (.ask k c')
theorem RL.refl{α:Type}{rel:α->α->Prop}(h:∀a,rel a a):∀r,RL rel r r
 | .ok a g=>.ok g (h a)
 | .ex=>.ex
 | .st=>.st _
 | .ask k c=>.ask λi=>RL.refl h (c i)
theorem RL.bind{α β:Type}{rel:α->α->Prop}{rel':β->β->Prop}{k k':α->G->R β}{r r':R α}(h:RL rel r r')(hk:∀a a' g,rel a a'->RL rel' (k a g) (k' a' g)):RL rel' (r.bind k) (r'.bind k'):=by
 induction h with
 |st r=>exact .st _
 |ok g q=>exact hk _ _ g q
 |ex=>exact .ex
 |ask _ ih=>exact .ask ih
theorem RL.tr{α:Type}{rel:α->α->Prop}{r r' h h':R α}(q:RL rel r r')(hh:RL rel h h'):RL rel (r.tr h) (r'.tr h'):=by
 induction q with
 |st r=>exact .st _
 |ok g q=>exact .ok g q
 |ex=>exact hh
 |ask _ ih=>exact .ask ih
theorem RL.all{α:Type}{rel:α->α->Prop}{r r':R α}(q:RL rel r r'){Φ Φ':α->G->Prop}{Ψ:Prop}(hΦ:∀a a' g,rel a a'->Φ a g->Φ' a' g)(h:r.All Φ Ψ):r'.All Φ' Ψ:=by
 induction q with
 |st r=>exact h.elim
 |ok g q=>exact hΦ _ _ _ q h
 |ex=>exact h
 |ask _ ih=>exactλi hi=>ih i (h i hi)
theorem RL.opt{α:Type}{o o':Option α}{g:G}(h:∀a,o=some a->o'=some a):RL Eq (Mine.opt o g) (Mine.opt o' g):=by
 cases o with
 |none=>exact .st _
 |some a=>rw[h a rfl];exact .ok g rfl
inductive j8:Fl->Fl->Prop
 |next {l l':Loc}:Le l l'->j8 (.next l) (.next l')
 |cont {l l':Loc}:Le l l'->j8 (.cont l) (.cont l')
 |ret (v:V):j8 (.ret v) (.ret v)
theorem RL.eq{α:Type}(r:R α):RL Eq r r:=RL.refl (λ_=>rfl) r
theorem RL.same{α β:Type}{k:α->G->R β}{r r':R α}(h:RL Eq r r'):RL Eq (r.bind k) (r'.bind k):=h.bind λa a' g q=>q▸RL.eq (k a g)
theorem RL.cL{α β:Type}{rel:β->β->Prop}{k k':α->G->R β}{r r':R α}(h:RL Eq r r')(hk:∀a g,RL rel (k a g) (k' a g)):RL rel (r.bind k) (r'.bind k'):=h.bind λa a' g q=>q▸hk a g
theorem rB{α:Type}{rel:α->α->Prop}{o:Option Bool}{a b c a' b' c':R α}(h1:RL rel a a')(h2:RL rel b b')(h3:RL rel c c'):RL rel (match o with|some true=>a|some false=>b|none=>c) (match o with|some true=>a'|some false=>b'|none=>c'):=by
 cases o with
 |none=>exact h3
 |some t=>cases t with
  |true=>exact h1
  |false=>exact h2
structure LM(f:Fs):Prop where
 e:∀l l' g e,Le l l'->RL Eq (f.e l g e) (f.e l' g e)
 s:∀l l' g s,Le l l'->RL j8 (f.s l g s) (f.s l' g s)
section
variable{f:Fs}(H:LM f){l l':Loc}(h:Le l l')
include H h
theorem v9(es:List ME):∀g,RL Eq (evs f l g es) (evs f l' g es):=by
 induction es with
 |nil=>exactλg=>.ok g rfl
 |cons e es ih=>exactλg=>(H.e l l' g e h).cL λa g=>(ih g).same
theorem NL(es:List (S×ME)):∀g,RL Eq (evd f l g es) (evd f l' g es):=by
 induction es with
 |nil=>exactλg=>.ok g rfl
 |cons p es ih=>exactλg=>(H.e l l' g p.2 h).cL λa g=>(ih g).same
theorem Ao(e:Option ME)(g:G):RL Eq (evo f l g e) (evo f l' g e):=by
 cases e with
 |none=>exact RL.eq _
 |some e=>exact H.e l l' g e h
theorem we(e:ME)(g:G):RL Eq (tst f l g e) (tst f l' g e):=(H.e l l' g e h).same
theorem KU(es:List ME):∀e g,RL Eq (UH f l g (e::es)) (UH f l' g (e::es)):=by
 induction es with
 |nil=>exactλe g=>H.e l l' g e h
 |cons e2 es ih=>exactλe g=>(H.e l l' g e h).cL λa g=>rB (o:=truthy g a) (ih e2 g) (RL.eq _) (RL.eq _)
theorem NN(es:List ME):∀e g,RL Eq (ors f l g (e::es)) (ors f l' g (e::es)):=by
 induction es with
 |nil=>exactλe g=>H.e l l' g e h
 |cons e2 es ih=>exactλe g=>(H.e l l' g e h).cL λa g=>rB (o:=truthy g a) (RL.eq _) (ih e2 g) (RL.eq _)
theorem GC(C:Cfg)(g:G)(e:ME):RL Eq (UI C f l g e) (UI C f l' g e):=by
 have he:=λg e=>H.e l l' g e h;cases e with
 |loc x=>exact RL.opt λa ha=>h x a ha
 |tup es=>exact(v9 H h es g).same
 |lst p es=>exact(v9 H h es g).same
 |dict p es=>exact(NL H h es g).same
 |attr e a=>exact(he g e).same
 |sub e i=>exact(he g e).cL λa g=>(he g i).same
 |slice e lo hi=>exact(he g e).cL λa g=>(Ao H h lo g).cL λa g=>(Ao H h hi g).same
 |bin op a b=>exact(he g a).cL λx g=>(he g b).same
 |mul p a b=>exact(he g a).cL λx g=>(he g b).same
 |neg a=>exact(he g a).same
 |not a=>exact(we H h a g).same
 |and es=>cases es with
  |nil=>exact .st _
  |cons e es=>exact KU H h es e g
 |or es=>cases es with
  |nil=>exact .st _
  |cons e es=>exact NN H h es e g
 |ite c a b=>exact(we H h c g).cL λt g=>match t with
  |true=>he g a
  |false=>he g b
 |cmp op a b=>exact(he g a).cL λx g=>(he g b).same
 |Bc o1 o2 a b c=>exact(he g a).cL λx g=>(he g b).cL λy g=>rB (o:=SI g o1 x y) (he g c).same (RL.eq _) (RL.eq _)
 |call e es=>
   refine(he g e).cL λv g=>?_;cases v with
   |fn a=>
    refine(?_:RL Eq (match SP C a with|true=>(evs f l g es).bind λvs g=>f.c g (.fn a) vs|false=>.st) (match SP C a with|true=>(evs f l' g es).bind λvs g=>f.c g (.fn a) vs|false=>.st))
    cases SP C a with
    |true=>exact(v9 H h es g).same
    |false=>exact .st _
   |_=>exact .st _
 |mcall o m es=>
   refine(he g o).cL λv g=>?_;refine(?_:RL Eq (match look C g v m with|some k=>(evs f l g es).bind λvs g=>Ua f g v k vs|none=>.st) (match look C g v m with|some k=>(evs f l' g es).bind λvs g=>Ua f g v k vs|none=>.st))
   cases look C g v m with
   |some k=>exact(v9 H h es g).same
   |none=>exact .st _
 |len e=>exact(he g e).same
 |abs e=>exact(he g e).same
 |list e=>exact(he g e).same
 |isi e m=>exact(he g e).same
 |filt x it cs=>exact(he g it).same
 |_=>exact RL.eq _
end
theorem oF{f:Fs}(H:LM f)(b:List MS):∀{l l':Loc}(h:Le l l')(g:G),RL j8 (blk f l g b) (blk f l' g b):=by
 induction b with
 |nil=>exactλh g=>.ok g (.next h)
 |cons s b ih=>exactλ{l l'} h g=>RL.bind (H.s l l' g s h) λx x' g q=>match q with
  | .next h'=>ih h' g
  | .cont h'=>.ok g (.cont h')
  | .ret v=>.ok g (.ret v)
theorem wg{f:Fs}(H:LM f){step:Loc->V->Option Loc}(hs:∀l l' v l1,Le l l'->step l v=some l1->∃l1',step l' v=some l1'/\Le l1 l1')(b:List MS)(vs:List V):∀{l l':Loc}(h:Le l l')(g:G),RL j8 (loop f step b l g vs) (loop f step b l' g vs):=by
 induction vs with
 |nil=>exactλh g=>.ok g (.next h)
 |cons v vs ih=>
  intro l l' h g;refine(?_:RL j8 (match step l v with
   |none=>.st
   |some l=>(blk f l g b).bind λx g=>match x with
    | .next l=>loop f step b l g vs
    | .cont l=>loop f step b l g vs
    | .ret v=>.ok (.ret v) g) (match step l' v with
   |none=>.st
   |some l=>(blk f l g b).bind λx g=>match x with
    | .next l=>loop f step b l g vs
    | .cont l=>loop f step b l g vs
    | .ret v=>.ok (.ret v) g))
  cases e:step l v with
  |none=>exact .st _
  |some l1=>
   obtain⟨l1',e1,h1⟩:=hs l l' v l1 h e;rw[e1];exact RL.bind (oF H b h1 g) λx x' g q=>match q with
    | .next h'=>ih h' g
    | .cont h'=>ih h' g
    | .ret v=>.ok g (.ret v)
theorem GD{xs:List Nat}:∀{vs:List V}{l l' l1:Loc},Le l l'->Uq l xs vs=some l1->∃l1',Uq l' xs vs=some l1'/\Le l1 l1':=by
 induction xs with
 |nil=>exactλ{vs l l' l1} h e=>match vs,e with
  |[],e=>⟨l',rfl,Option.some.inj e▸h⟩
  |_::_,e=>aL e
 |cons x xs ih=>exactλ{vs l l' l1} h e=>match vs,e with
  |[],e=>aL e
  |v::vs,e=>ih (h.set x v) e
theorem rC{xs:List Nat}{v:V}{l l' l1:Loc}(h:Le l l')(e:SK l xs v=some l1):∃l1',SK l' xs v=some l1'/\Le l1 l1':=by
 cases v with
 |tup vs=>exact GD h e
 |_=>exact aL e
theorem Le.clean{l l':Loc}(h:Le l l'):Le (clean l) (clean l'):=by intro x v hv;rw[Bk]at *;obtain⟨w,hw,rfl⟩:=Option.map_eq_some_iff.mp hv;rw[h x w hw];rfl
theorem uD{l l':Loc}(h:Le l l'){r:R Unit}:RL j8 (r.bind λ_ g=>.ok (.next l) g) (r.bind λ_ g=>.ok (.next l') g):=(RL.eq r).cL λ_ g=>.ok g (.next h)
theorem GF{f:Fs}(H:LM f){l l':Loc}(h:Le l l')(C:Cfg)(g:G)(s:MS):RL j8 (UJ C f l g s) (UJ C f l' g s):=by
 have he:=λg e=>H.e l l' g e h;cases s with
 |expr e=>exact(he g e).cL λa g=>.ok g (.next h)
 |asg x e=>exact(he g e).cL λa g=>.ok g (.next (h.set x a))
 |xg xs e=>
  refine(he g e).cL λa g=>?_;refine(?_:RL j8 (match SK l xs a with|some l=>.ok (.next l) g|none=>.st) (match SK l' xs a with|some l=>.ok (.next l) g|none=>.st))
  cases hu:SK l xs a with
  |none=>exact .st _
  |some l1=>obtain⟨l1',e1,h1⟩:=rC h hu;rw[e1];exact .ok g (.next h1)
 |asgA o a e=>
  refine(he g e).cL λv g=>(he g o).cL λw g=>?_;cases w with
  |inst k d=>
   refine(?_:RL j8 (match aT C.ct k,(g.get d).put a v with|some _,some c=>(g.set d c).bind λ_ g=>.ok (.next l) g|_,_=>.st) (match aT C.ct k,(g.get d).put a v with|some _,some c=>(g.set d c).bind λ_ g=>.ok (.next l') g|_,_=>.st))
   cases aT C.ct k with
   |none=>exact .st _
   |some _=>cases (g.get d).put a v with
    |none=>exact .st _
    |some c=>exact uD h
  |_=>exact .st _
 |g7 o i e=>
  refine(he g e).cL λv g=>(he g o).cL λw g=>(he g i).cL λk g=>?_;cases w with
  |ref j=>
   refine(?_:RL j8 (match Te (g.get j) k v with|some c=>(g.set j c).bind λ_ g=>.ok (.next l) g|none=>.st) (match Te (g.get j) k v with|some c=>(g.set j c).bind λ_ g=>.ok (.next l') g|none=>.st))
   cases Te (g.get j) k v with
   |none=>exact .st _
   |some c=>exact uD h
  |_=>exact .st _
 |aug x op e=>
  refine(?_:RL j8 (match aT l x with
   |some (.int i)=>(f.e l g e).bind λw g=>match w with
    | .int j=>match S6 g op (.int i) (.int j)with
     |some r=>.ok (.next (bY l x r)) g
     |none=>.st
    |_=>.st
   |_=>.st) (match aT l' x with
   |some (.int i)=>(f.e l' g e).bind λw g=>match w with
    | .int j=>match S6 g op (.int i) (.int j)with
     |some r=>.ok (.next (bY l' x r)) g
     |none=>.st
    |_=>.st
   |_=>.st))
  cases hx:aT l x with
  |none=>exact .st _
  |some v=>
   rw[h x v hx];cases v with
   |int i=>
    refine(he g e).cL λw g=>?_;cases w with
    |int j=>
     refine(?_:RL j8 (match S6 g op (.int i) (.int j)with|some r=>.ok (.next (bY l x r)) g|none=>.st) (match S6 g op (.int i) (.int j)with|some r=>.ok (.next (bY l' x r)) g|none=>.st))
     cases S6 g op (.int i) (.int j)with
     |none=>exact .st _
     |some r=>exact .ok g (.next (h.set _ _))
    |_=>exact .st _
   |_=>exact .st _
 |ifs c a b=>exact(we H h c g).cL λt g=>match t with
  |true=>oF H _ h g
  |false=>oF H _ h g
 |gw x it b=>
  refine(he g it).cL λv g=>?_;refine(?_:RL j8 (match gz g v with|some vs=>TA g v λg=>loop f (λl v=>some (bY l x v)) b l g vs|none=>.st) (match gz g v with|some vs=>TA g v λg=>loop f (λl v=>some (bY l x v)) b l' g vs|none=>.st))
  cases gz g v with
  |none=>exact .st _
  |some vs=>exact RL.bind (wg H (λl l' v l1 h e=>⟨_,rfl,Option.some.inj e▸h.set _ _⟩) b vs h _) λx x' g q=>.ok _ q
 |g8 xs it b=>
  refine(he g it).cL λv g=>?_;refine(?_:RL j8 (match gz g v with|some vs=>TA g v λg=>loop f (λl v=>SK l xs v) b l g vs|none=>.st) (match gz g v with|some vs=>TA g v λg=>loop f (λl v=>SK l xs v) b l' g vs|none=>.st))
  cases gz g v with
  |none=>exact .st _
  |some vs=>exact RL.bind (wg H (step:=λl v=>SK l xs v) (λl l' v l1 h e=>rC h e) b vs h _) λx x' g q=>.ok _ q
 |forR x lo hi b=>
  have h0:RL Eq (match lo with|none=>R.ok (V.int 0) g|some e=>f.e l g e) (match lo with|none=>R.ok (V.int 0) g|some e=>f.e l' g e):=by
   cases lo with
   |none=>exact RL.eq _
   |some e=>exact he g e
  refine h0.cL λp g=>(he g hi).cL λq g=>?_;cases p with
  |int p=>cases q with
   |int q=>
    refine(?_:RL j8 (match Nat.ble p.natAbs big,Nat.ble q.natAbs big with|true,true=>loop f (λl v=>some (bY l x v)) b l g (lP p q)|_,_=>.st) (match Nat.ble p.natAbs big,Nat.ble q.natAbs big with|true,true=>loop f (λl v=>some (bY l x v)) b l' g (lP p q)|_,_=>.st))
    cases Nat.ble p.natAbs big with
    |false=>exact .st _
    |true=>cases Nat.ble q.natAbs big with
     |false=>exact .st _
     |true=>exact wg H (λl l' v l1 h e=>⟨_,rfl,Option.some.inj e▸h.set _ _⟩) b _ h _
   |_=>exact .st _
  |_=>exact .st _
 |whl c b=>exact(we H h c g).cL λt g=>match t with
  |false=>.ok g (.next h)
  |true=>RL.bind (oF H b h g) λx x' g q=>match q with
   | .next h'=>H.s _ _ g _ h'
   | .cont h'=>H.s _ _ g _ h'
   | .ret v=>.ok g (.ret v)
 |ret e=>exact(Ao H h e g).cL λa g=>.ok g (.ret a)
 |raise s=>exact .ex
 |tr b x hh=>
  refine RL.tr (oF H b h g) ?_;refine(?_:RL j8 (match Nat.beq x C.exc with|true=>blk f (clean l) ⟨[],0,[]⟩ hh|false=>.st) (match Nat.beq x C.exc with|true=>blk f (clean l') ⟨[],0,[]⟩ hh|false=>.st))
  cases Nat.beq x C.exc with
  |true=>exact oF H hh h.clean _
  |false=>exact .st _
 |cont=>exact .ok g (.cont h)
 |any=>exact .st _
theorem BQ(C:Cfg):∀n,LM (fs C n)
 |0=>⟨λ_ _ _ _ _=>.st _,λ_ _ _ _ _=>.st _⟩
 |n+1=>⟨λl l' g e h=>GC (BQ C n) h C g e,λl l' g s h=>GF (BQ C n) h C g s⟩
structure R.Al{α:Type}(r:R α)(Φ:α->G->Prop)(Ψ:Prop):Prop where
 out:r.All Φ Ψ
theorem R.Al.mono{α:Type}{Φ Φ':α->G->Prop}{Ψ Ψ':Prop}{r:R α}(q:r.Al Φ Ψ)(h:∀a g,Φ a g->Φ' a g)(k:Ψ->Ψ'):r.Al Φ' Ψ':=⟨q.out.mono h k⟩
theorem R.Al.bind{α β:Type}{f:α->G->R β}{Φ:β->G->Prop}{Ψ:Prop}{r:R α}:(r.bind f).Al Φ Ψ↔r.Al (λa g=>(f a g).Al Φ Ψ) Ψ:=
 ⟨λq=>⟨(R.All.bind.mp q.out).mono (λ_ _ p=>⟨p⟩) id⟩,λq=>⟨R.All.bind.mpr (q.out.mono (λ_ _ p=>p.out) id)⟩⟩
theorem RL.al{α:Type}{rel:α->α->Prop}{r r':R α}(q:RL rel r r'){Φ Φ':α->G->Prop}{Ψ:Prop}(hΦ:∀a a' g,rel a a'->Φ a g->Φ' a' g)(h:r.Al Φ Ψ):r'.Al Φ' Ψ:=⟨q.all hΦ h.out⟩
theorem bu{α:Type}{Φ:α->G->Prop}{Ψ:Prop}{a:α}{g:G}(h:Φ a g):(R.ok a g).Al Φ Ψ:=⟨h⟩
theorem m9{α:Type}{Φ:α->G->Prop}{Ψ:Prop}(h:Ψ):(R.ex:R α).Al Φ Ψ:=⟨h⟩
section
variable{C:Cfg}{n:Nat}{l l0:Loc}{g:G}{e:ME}{r:List MS}{Φ:Fl->G->Prop}{Ψ:Prop}
theorem aG{P:V->G->Prop}(h:Le l0 l)(q:((fs C n).e l0 g e).Al P Ψ):((fs C n).e l g e).Al P Ψ:=
 ((BQ C n).e l0 l g e h).al (λa a' g e p=>by subst e;exact p) q
theorem all_nil(h:Φ (.next l) g):(blk (fs C n) l g []).Al Φ Ψ:=bu h
theorem bJ(q:((fs C n).e l g e).Al (λ_ g=>(blk (fs C (n+1)) l g r).Al Φ Ψ) Ψ):(blk (fs C (n+1)) l g (.expr e::r)).Al Φ Ψ:=
 R.Al.bind.mpr (R.Al.bind.mpr (q.mono (λ_ _ p=>bu p) id))
theorem aZ{x:Nat}(q:((fs C n).e l g e).Al (λv g=>(blk (fs C (n+1)) (bY l x v) g r).Al Φ Ψ) Ψ):(blk (fs C (n+1)) l g (.asg x e::r)).Al Φ Ψ:=
 R.Al.bind.mpr (R.Al.bind.mpr (q.mono (λ_ _ p=>bu p) id))
theorem bW(q:((fs C n).e l g e).Al (λv g=>Φ (.ret v) g) Ψ):(blk (fs C (n+1)) l g (.ret (some e)::r)).Al Φ Ψ:=
 R.Al.bind.mpr (R.Al.bind.mpr (q.mono (λ_ _ p=>bu (bu p)) id))
noncomputable def Tc(C:Cfg)(n:Nat)(r:List MS)(Φ:Fl->G->Prop)(Ψ:Prop)(x:Fl)(g:G):Prop:=match x with
 | .next l=>(blk (fs C n) l g r).Al Φ Ψ
 |x=>Φ x g
theorem cV(h:Φ (.next l) g):Tc C n [] Φ Ψ (.next l) g:=bu h
theorem IF(q:(blk (fs C n) l g r).Al Φ Ψ):Tc C n r Φ Ψ (.next l) g:=q
theorem cy{s:MS}(q:((fs C n).s l g s).Al (Tc C n r Φ Ψ) Ψ):(blk (fs C n) l g (s::r)).Al Φ Ψ:=by refine R.Al.bind.mpr (q.mono (λx g p=>?_) id);cases x<;>first|exact p|exact bu p|exact p.elim
theorem gc{xs:List Nat}{b:List MS}(q:((fs C n).e l g e).Al (λv g=>∃vs,gz g v=some vs/\(loop (fs C n) (λl v=>SK l xs v) b l (VR g v) vs).Al (λx h=>Tc C (n+1) r Φ Ψ x ⟨h.hp,h.left,g.lk⟩) Ψ) Ψ):
  (blk (fs C (n+1)) l g (.g8 xs e b::r)).Al Φ Ψ:=by
 refine cy (R.Al.bind.mpr (q.mono (λv g p=>?_) id));obtain⟨vs,hv,p⟩:=p;rw[hv];exact R.Al.bind.mpr (p.mono (λ_ _ q=>bu q) id)
theorem gZ{x:Nat}{b:List MS}(q:((fs C n).e l g e).Al (λv g=>∃vs,gz g v=some vs/\(loop (fs C n) (λl v=>some (bY l x v)) b l (VR g v) vs).Al (λy h=>Tc C (n+1) r Φ Ψ y ⟨h.hp,h.left,g.lk⟩) Ψ) Ψ):
  (blk (fs C (n+1)) l g (.gw x e b::r)).Al Φ Ψ:=by
 refine cy (R.Al.bind.mpr (q.mono (λv g p=>?_) id));obtain⟨vs,hv,p⟩:=p;rw[hv];exact R.Al.bind.mpr (p.mono (λ_ _ q=>bu q) id)
theorem b8{a b:List MS}(q:(tst (fs C n) l g e).Al (λt g=>(blk (fs C n) l g (match t with|true=>a|false=>b)).Al (Tc C (n+1) r Φ Ψ) Ψ) Ψ):(blk (fs C (n+1)) l g (.ifs e a b::r)).Al Φ Ψ:=by refine cy (R.Al.bind.mpr (q.mono (λt g p=>?_) id));cases t<;>exact p
theorem aN{f:Fs}{step:Loc->V->Option Loc}{b:List MS}(h:Φ (.next l) g):(loop f step b l g []).Al Φ Ψ:=bu h
theorem aM{f:Fs}{step:Loc->V->Option Loc}{b:List MS}{v:V}{vs:List V}{l1:Loc}(hs:step l v=some l1)
  (q:(blk f l1 g b).Al (λx g=>match x with
   | .next l=>(loop f step b l g vs).Al Φ Ψ
   | .cont l=>(loop f step b l g vs).Al Φ Ψ
   | .ret v=>Φ (.ret v) g) Ψ):(loop f step b l g (v::vs)).Al Φ Ψ:=by
 show(match step l v with
  |none=>.st
  |some l=>(blk f l g b).bind λx g=>match x with
   | .next l=>loop f step b l g vs
   | .cont l=>loop f step b l g vs
   | .ret v=>.ok (.ret v) g:R Fl).Al Φ Ψ
 rw[hs];refine R.Al.bind.mpr (q.mono (λx g p=>?_) id);cases x<;>first|exact p|exact bu p|exact p.elim
theorem dU{a:Nat}{vs:List V}{fd:Fn}{P:V->G->Prop}(hp:C.prim a vs g=none)(hf:aT C.ft a=some fd)(hb:Tj fd.ps vs fd.df=some l)
  (q:(blk (fs C n) l g fd.body).Al (λx g=>match x with
   | .ret v=>P v g
   | .next _=>P .none g
   | .cont _=>False) Ψ):((fs C (n+1)).c g (.fn a) vs).Al P Ψ:=by
 show(match C.prim a vs g with
  |some r=>r
  |none=>match aT C.ft a with
   |some fd=>match Tj fd.ps vs fd.df with
    |none=>.st
    |some l=>(blk (fs C n) l g fd.body).bind λx g=>match x with
     | .ret v=>.ok v g
     | .next _=>.ok .none g
     | .cont _=>.st
   |none=>match aT C.ct a with
    |some k=>T6 C (fs C n) g a k vs
    |none=>.st:R V).Al P Ψ
 rw[hp];dsimp only;rw[hf];dsimp only;rw[hb];refine R.Al.bind.mpr (q.mono (λx g p=>?_) id);cases x<;>first|exact p|exact bu p|exact p.elim
end
theorem dO(l:Loc):Le [] l:=λ_ _ h=>by cases h
set_option tactic.hygienic true in
theorem aq{l0 l:Loc}{x:Nat}{v:V}(hx:aT l x=some v)(h:Le l0 l):Le ((x,v)::l0) l:=by
 intro y w hy;unfold aT at hy;split at hy
 ·rename_i e;rw[<- Nat.eq_of_beq_eq_true e];cases hy;exact hx
 ·exact h y w hy
theorem au(l:Loc)(x:Nat)(v:V):aT (bY l x v) x=some v:=fj l x v
theorem aa(l:Loc){x y:Nat}(v:V)(h:y≠x):aT (bY l x v) y=aT l y:=gW l v h
noncomputable def Sp.ok:Sp->Bool
 | .type _ _ .d3=>false
 | .common _ .no _=>false
 |_=>true
theorem GG{h:Hd}{imp:Bool}{left left0:Nat}{lk:List Nat}{v:V}{o:Option T}{P:V->G->Prop}{Ψ:Prop}(hP:∀t left',o=some t->left0<=left'->P v (bE h imp t left' lk))(hΨ:o=none->Ψ)(hl:left0<=left):(TX h imp left lk v o).Al P Ψ:=by
 cases o with
 |none=>exact m9 (hΨ rfl)
 |some t=>exact bu (hP t left rfl hl)
theorem iu{h:Hd}{imp:Bool}{left left0:Nat}{v:V}{o:Option T}{x:R V}{P:V->G->Prop}{Ψ:Prop}(e:x=TX h imp left [] v o)(hP:∀t left',o=some t->left0<=left'->P v (bE h imp t left' []))(hΨ:o=none->Ψ)(hl:left0<=left):x.Al P Ψ:=e▸GG hP hΨ hl
theorem yH(h:Hd)(imp:Bool)(t:T)(left n:Nat)(sp:Sp)(ok:sp.ok=true){P:V->G->Prop}{Ψ:Prop}(hP:∀t' left',t.addSpec imp sp=some t'->left<=left'->P .none (bE h imp t' left' []))(hΨ:t.addSpec imp sp=none->Ψ):
  ((fs aA (n+100)).c (bE h imp t (left+2) []) (.fn 663) [bg,sp.v]).Al P Ψ:=by
 have l2:=Nat.le_add_right left 2;cases sp with
 |type nm k d=>
  cases d with
  |d0=>exact iu (q7 h (left+2) (n+20) k t nm imp) hP hΨ l2
  |d1=>exact iu (q8 h (left+2) (n+20) k t nm imp) hP hΨ l2
  |d2=>exact iu (q9 h (left+2) (n+20) k t nm imp) hP hΨ l2
  |d3=>exact nomatch ok
 |dimension nm=>exact iu (sX h (left+2) (n+20) t nm imp) hP hΨ l2
 |common nm c d=>exact iu (sY h left (n+20) c t nm imp d) hP hΨ (Nat.le_refl _)
 |param nm=>exact iu (sZ h (left+2) n t nm imp) hP hΨ l2
 |external nm=>exact iu (s6 h (left+2) (n+20) t nm imp) hP hΨ l2
 |aB nm=>exact iu (rm h (left+2) (n+20) t nm imp) hP hΨ l2
 |save nm=>exact iu (rz h (left+1) (n+20) t nm imp) hP hΨ (Nat.le_add_right left 1)
noncomputable def gK(imp:Bool):T->List Sp->Option T
 |t,[]=>some t
 |t,s::r=>match t.addSpec imp s with
  |none=>none
  |some t=>gK imp t r
abbrev aR:Nat:=499850046565
abbrev bR:Nat:=1936745827
abbrev bN:Nat:=1818848869
noncomputable def eZ(l:List (V×Sp)):List V:=l.map λp=>.tup [p.1,p.2.v]
theorem rD(h:Hd)(imp:Bool)(n:Nat){Φ:Fl->G->Prop}{Ψ:Prop}{bs:List MS}(hbs:bs=[.expr (.call (.glob 7017844480471491939) [.loc aR,.loc bR])]):∀(ps:List (V×Sp))(t:T)(left:Nat)(l:Loc),(∀p:V×Sp,p∈ps->p.2.ok=true)->aT l aR=some bg->
  (∀t' left' l',gK imp t (ps.map (λq:V×Sp=>q.2))=some t'->left<=left'->(∀x,x≠bN->x≠bR->aT l' x=aT l x)->Φ (.next l') (bE h imp t' left' []))->(gK imp t (ps.map (λq:V×Sp=>q.2))=none->Ψ)->
  (loop (fs aA (n+102)) (λl v=>SK l [bN,bR] v) bs l (bE h imp t (left+2 * ps.length) []) (eZ ps)).Al Φ Ψ
 |[],t,left,l,_,hl,hΦ,hΨ=>aN (hΦ t left l rfl (Nat.le_refl _) λ_ _ _=>rfl)
 |p::ps,t,left,l,ok,hl,hΦ,hΨ=>by
  subst hbs;have hw:aT (bY (bY l bN p.1) bR p.2.v) aR=some bg:=by rw[aa _ _ (by decide),aa _ _ (by decide),hl]
  have hw2:aT (bY (bY l bN p.1) bR p.2.v) bR=some p.2.v:=au _ _ _;refine aM (l1:=bY (bY l bN p.1) bR p.2.v) rfl (bJ (n:=n+101) (aG (aq hw (aq hw2 (dO _))) ?_));rw[show(fs aA (n+101)).e [(aR,bg),(bR,p.2.v)] (bE h imp t (left+2 * (p::ps).length) []) (.call (.glob 7017844480471491939) [.loc aR,.loc bR])=(fs aA (n+100)).c (bE h imp t (left+2 * (p::ps).length) []) (.fn 663) [bg,p.2.v]from by kernel_rfl]
  rw[show left+2 * (p::ps).length=(left+2 * ps.length)+2 from rfl];refine yH h imp t (left+2 * ps.length) n p.2 (ok p (.head _)) (λt' left' e hle=>?_) (λe=>hΨ (by show(match t.addSpec imp p.2 with|none=>none|some t=>gK imp t (ps.map (λq:V×Sp=>q.2)))=none;rw[e]))
  refine all_nil ?_;obtain⟨k,rfl⟩:∃k,left'=(left+k)+2 * ps.length:=OQ hle;have hf:gK imp t ((p::ps).map (λq:V×Sp=>q.2))=gK imp t' (ps.map (λq:V×Sp=>q.2)):=by show(match t.addSpec imp p.2 with|none=>none|some t=>gK imp t (ps.map (λq:V×Sp=>q.2)))=_;rw[e]
  rw[hf]at hΦ hΨ;exact rD h imp n rfl ps t' (left+k) _ (λq hq=>ok q (.tail _ hq)) hw (λt'' left'' l' e' hle' hk=>hΦ t'' left'' l' e' (Bf hle') λx h1 h2=>by rw[hk x h1 h2,aa _ _ h2,aa _ _ h1]) hΨ
section
variable{C:Cfg}{n:Nat}{l l0:Loc}{g:G}{e a b:ME}{r:List MS}{Ψ:Prop}
theorem bh{P:Bool->G->Prop}(q:((fs C n).e l g e).Al (λv g=>∃b,truthy g v=some b/\P b g) Ψ):(tst (fs C n) l g e).Al P Ψ:=by refine R.Al.bind.mpr (q.mono (λv g p=>?_) id);obtain⟨b,hb,p⟩:=p;rw[hb];exact bu p
theorem iO{P:V->G->Prop}(q:((fs C n).e l g a).Al (λv g=>∃t,truthy g v=some t/\match t with|true=>((fs C n).e l g b).Al P Ψ|false=>P v g) Ψ):((fs C (n+1)).e l g (.and [a,b])).Al P Ψ:=by refine R.Al.bind.mpr (q.mono (λv g p=>?_) id);obtain⟨t,ht,p⟩:=p;rw[ht];cases t<;>first|exact bu p|exact p
theorem wh{c:ME}{b:List MS}{Φ:Fl->G->Prop} (q:(tst (fs C n) l g c).Al (λt g=>match t with
  |false=>Φ (.next l) g
  |true=>(blk (fs C n) l g b).Al (λx g=>match x with
   | .next l=>((fs C n).s l g (.whl c b)).Al Φ Ψ
   | .cont l=>((fs C n).s l g (.whl c b)).Al Φ Ψ
   | .ret v=>Φ (.ret v) g) Ψ) Ψ):((fs C (n+1)).s l g (.whl c b)).Al Φ Ψ:=by
 refine R.Al.bind.mpr (q.mono (λt g p=>?_) id);cases t with
 |false=>exact bu p
 |true=>refine R.Al.bind.mpr (p.mono (λx g p=>?_) id);cases x<;>first|exact p|exact bu p
theorem cK{P:V->G->Prop}(q:((fs C n).e l g a).Al (λx g=>((fs C n).e l g b).Al (λy g=>∃v,item g x y=some v/\P v g) Ψ) Ψ):((fs C (n+1)).e l g (.sub a b)).Al P Ψ:=by refine R.Al.bind.mpr (q.mono (λx g p=>R.Al.bind.mpr (p.mono (λy g p=>?_) id)) id);obtain⟨v,hv,p⟩:=p;rw[hv];exact bu p
theorem cD{op:Nat}{P:V->G->Prop}(q:((fs C n).e l g a).Al (λx g=>((fs C n).e l g b).Al (λy g=>∃t,SI g op x y=some t/\P (.bool t) g) Ψ) Ψ):((fs C (n+1)).e l g (.cmp op a b)).Al P Ψ:=by refine R.Al.bind.mpr (q.mono (λx g p=>R.Al.bind.mpr (p.mono (λy g p=>?_) id)) id);obtain⟨v,hv,p⟩:=p;rw[hv];exact bu p
theorem aD{x:Nat}{v:V}{P:V->G->Prop}(h:aT l x=some v)(p:P v g):((fs C (n+1)).e l g (.loc x)).Al P Ψ:=by show(opt (aT l x) g).Al P Ψ;rw[h];exact bu p
theorem SM{P:V->G->Prop}{x y:R V}(h:x=y)(q:y.Al P Ψ):x.Al P Ψ:=by rw[h];exact q
theorem ao{P:V->G->Prop}{x:R V}{v:V}(h:x=.ok v g)(p:P v g):x.Al P Ψ:=by rw[h];exact bu p
end
theorem aK(g:G)(b:Bool):truthy g (.bool b)=some b:=rfl
noncomputable def TG(imp:Bool):T->List Sp->Nat->Option (T×List Sp×Nat)
 |t,.param n::r,k=>match t.addParam imp n with
  |none=>none
  |some t=>TG imp t r (k+1)
 |t,ps,k=>some (t,ps,k)
abbrev dc:Nat:=427071729268
abbrev iP:Nat:=495806931827
noncomputable def GH:ME:=.and [.cmp 2 (.loc dc) (.len (.loc iP)),.cmp 8 (.sub (.sub (.sub (.loc iP) (.loc dc)) (.int 1)) (.int 0)) (.tup [.str aX,.str aQ])]
theorem Uh{g:G}{L pre:List V}{v:V}{rest:List V}{i:Nat}(hg:g.get i=.list L)(hL:L=pre++v::rest):item g (.ref i) (.int (pre.length:Nat))=some v:=by
 refine(xm hg).trans ?_;have:idx L.length ((pre.length:Nat):Int)=some pre.length:=by unfold idx;have:decide ((0:Int)<=(pre.length:Nat))=true:=decide_eq_true (Int.natCast_nonneg _);rw[this];simp
 show((idx L.length ((pre.length:Nat):Int)).bind λn=>L[n]?)=_;rw[this,hL];simp
theorem Sq(g:G)(w a b:S):SI g 8 (.str w) (.tup [.str a,.str b])=some (As a w||As b w):=by
 show(match veq (.str a) (.str w)with|some true=>some true|some false=>(match veq (.str b) (.str w)with|some true=>some true|some false=>some false|none=>none)|none=>none)=_
 have h1:veq (.str a) (.str w)=some (As a w):=rfl;have h2:veq (.str b) (.str w)=some (As b w):=rfl;rw[h1,h2];cases As a w<;>cases As b w<;>rfl
theorem dM(h:Hd)(imp:Bool)(t:T)(left n:Nat)(L pre:List V)(l:Loc)(rest:List V)(hL:L=pre++rest){P:Bool->G->Prop}{Ψ:Prop}(h1:aT l iP=some (.ref 2))(h2:aT l dc=some (.int (pre.length:Nat)))
  (hP:match rest with
   |[]=>P false (bE {h with c2:=.list L} imp t left [])
   |v::_=>∃a w x ws,v=.tup (a::.tup (.str w::ws)::x)/\P (As lJ w||As bG w) (bE {h with c2:=.list L} imp t left [])):(tst (fs aA (n+20)) l (bE {h with c2:=.list L} imp t left []) GH).Al P Ψ:=by
 have le:=aq h1 (aq h2 (dO l));refine bh (n:=n+20) (iO (n:=n+19) (aG le (ao (v:=.bool (decide ((pre.length:Int) < (L.length:Int)))) (g:=bE {h with c2:=.list L} imp t left []) (by kernel_rfl) ⟨_,aK _ _,?_⟩)))
 cases rest with
 |nil=>
  have:decide ((pre.length:Int) < (L.length:Int))=false:=by rw[hL];simp
  rw[this];exact⟨false,rfl,hP⟩
 |cons v rest=>
  have:decide ((pre.length:Int) < (L.length:Int))=true:=by rw[hL,List.length_append];exact decide_eq_true (Int.ofNat_lt.mpr (Nat.lt_add_of_pos_right (Nat.succ_pos _)))
  rw[this];obtain⟨a,w,x,ws,rfl,hP⟩:=hP;refine cD (n:=n+18) (cK (n:=n+17) (cK (n:=n+16) (cK (n:=n+15) (aD (n:=n+14) h1 (aD (n:=n+14) h2 ⟨_,Uh rfl hL,?_⟩)))));refine ao (v:=.int 1) (g:=bE {h with c2:=.list L} imp t left []) (by kernel_rfl) ?_
  refine⟨.tup (.str w::ws),by kernel_rfl,ao (v:=.int 0) (g:=bE {h with c2:=.list L} imp t left []) (by kernel_rfl) ⟨.str w,by kernel_rfl,?_⟩⟩
  refine ao (v:=.tup [.str lJ,.str bG]) (g:=bE {h with c2:=.list L} imp t left []) (by kernel_rfl) ⟨_,Sq _ _ _ _,_,aK _ _,hP⟩
noncomputable def Aq:List MS:=[.asg 1936745827 (.sub (.sub (.loc 495806931827) (.loc 427071729268)) (.int 1)),.ifs (.cmp 0 (.sub (.loc 1936745827) (.int 0)) (.str aX)) [.expr (.mcall (.attr (.loc 499850046565) aX) [97,100,100] [.sub (.loc 1936745827) (.int 1)])] [.g8 [1851878757,1953654117] (.sub (.loc 1936745827) (.int 1)) [.expr (.call (.glob 7716201608145609707126982468978) [.loc 499850046565,.loc 1851878757,.loc 1953654117])]],.aug 427071729268 0 (.int 1)]
abbrev iF:Nat:=1851878757
abbrev rE:Nat:=1953654117
theorem BR{C:Cfg}{n:Nat}{l:Loc}{g:G}{r:List MS}{Φ:Fl->G->Prop}{Ψ:Prop}{x:Nat}{i j:Int}(h1:aT l x=some (.int i))(q:(blk (fs C (n+2)) (bY l x (.int (i+j))) g r).Al Φ Ψ):(blk (fs C (n+2)) l g (.aug x 0 (.int j)::r)).Al Φ Ψ:=by
 refine cy ?_;show(match aT l x with
  |some (.int i)=>((fs C (n+1)).e l g (.int j)).bind λw g=>match w with
   | .int j=>match S6 g 0 (.int i) (.int j)with
    |some r=>.ok (.next (bY l x r)) g
    |none=>.st
   |_=>.st
  |_=>.st:R Fl).Al _ _
 rw[h1];exact bu q
theorem DE(h:Hd)(imp:Bool)(t:T)(left n:Nat)(L pre:List V)(l:Loc)(a:V)(nm:Nm)(rest:List V)(hL:L=pre++.tup [a,(Sp.param nm).v]::rest){Φ:Fl->G->Prop}{Ψ:Prop}(h0:aT l aR=some bg)(h1:aT l iP=some (.ref 2))(h2:aT l dc=some (.int (pre.length:Nat)))
  (hΦ:∀t' l',t.addParam imp nm=some t'->aT l' aR=some bg->aT l' iP=some (.ref 2)->aT l' dc=some (.int ((pre.length+1:Nat):Int))->Φ (.next l') (bE {h with c2:=.list L} imp t' left [])) (hΨ:t.addParam imp nm=none->Ψ):
  (blk (fs aA (n+120)) l (bE {h with c2:=.list L} imp t left []) Aq).Al Φ Ψ:=by
 refine aZ (n:=n+119) (cK (n:=n+118) (cK (n:=n+117) (aD (n:=n+116) h1 (aD (n:=n+116) h2 ⟨_,Uh rfl hL,?_⟩))));refine ao (v:=.int 1) (g:=bE {h with c2:=.list L} imp t left []) (by kernel_rfl) ⟨(Sp.param nm).v,by kernel_rfl,?_⟩
 have k0:aT (bY l bR (Sp.param nm).v) aR=some bg:=by rw[aa _ _ (by decide),h0]
 have k1:aT (bY l bR (Sp.param nm).v) iP=some (.ref 2):=by rw[aa _ _ (by decide),h1]
 have k2:aT (bY l bR (Sp.param nm).v) dc=some (.int (pre.length:Nat)):=by rw[aa _ _ (by decide),h2]
 have k3:aT (bY l bR (Sp.param nm).v) bR=some (Sp.param nm).v:=au _ _ _;refine b8 (n:=n+119) (bh (n:=n+119) (aG (aq k3 (dO _)) (ao (v:=.bool false) (g:=bE {h with c2:=.list L} imp t left []) (by kernel_rfl) ⟨false,rfl,?_⟩)))
 refine gc (n:=n+118) (aG (aq k3 (dO _)) (ao (v:=.lst [.tup [.str nm.str,.tup [.str gY,.int 7]]]) (g:=bE {h with c2:=.list L} imp t left []) (by kernel_rfl) ⟨_,rfl,?_⟩))
 refine aM (l1:=bY (bY (bY l bR (Sp.param nm).v) iF (.str nm.str)) rE (.tup [.str gY,.int 7])) rfl ?_;have w0:aT (bY (bY (bY l bR (Sp.param nm).v) iF (.str nm.str)) rE (.tup [.str gY,.int 7])) aR=some bg:=by rw[aa _ _ (by decide),aa _ _ (by decide),k0]
 have w1:aT (bY (bY (bY l bR (Sp.param nm).v) iF (.str nm.str)) rE (.tup [.str gY,.int 7])) iF=some (.str nm.str):=by rw[aa _ _ (by decide),au]
 have w2:aT (bY (bY (bY l bR (Sp.param nm).v) iF (.str nm.str)) rE (.tup [.str gY,.int 7])) rE=some (.tup [.str gY,.int 7]):=au _ _ _;have w3:aT (bY (bY (bY l bR (Sp.param nm).v) iF (.str nm.str)) rE (.tup [.str gY,.int 7])) iP=some (.ref 2):=by rw[aa _ _ (by decide),aa _ _ (by decide),k1]
 have w4:aT (bY (bY (bY l bR (Sp.param nm).v) iF (.str nm.str)) rE (.tup [.str gY,.int 7])) dc=some (.int (pre.length:Nat)):=by rw[aa _ _ (by decide),aa _ _ (by decide),k2]
 refine bJ (n:=n+117) (aG (aq w0 (aq w1 (aq w2 (dO _)))) ?_);refine SM (y:=(fs aA (n+26+90)).c (bE {h with c2:=.list L} imp t left []) (.fn 625) [bg,.str nm.str,.tup [.str gY,.int 7]]) (by kernel_rfl) ?_
 rw[yF {h with c2:=.list L} left (n+26) t nm imp]
 cases e:t.addParam imp nm with
 |none=>exact m9 (hΨ e)
 |some t'=>
  refine ao (v:=.none) (g:=bE {h with c2:=.list L} imp t' left []) rfl (all_nil (aN ?_))
  refine cV (IF (n:=n+120) (BR (n:=n+118) w4 (all_nil ?_)));refine hΦ t' _ e ?_ ?_ ?_
  ·rw[aa _ _ (by decide),w0]
  ·rw[aa _ _ (by decide),w3]
  ·exact(au _ dc _).trans rfl
noncomputable def j9:V:=.tup [.str lJ,.lst [.tup [.int 5,.tup [.str gY,.int 3],.lst [.tup [.str [67],.str [67]]]]]]
theorem DG(h:Hd)(t:T)(left n:Nat)(L:List V)(l:Loc)(rest:List V)(hL:L=.tup [.int 1,j9]::rest){Φ:Fl->G->Prop}{Ψ:Prop}(h0:aT l aR=some bg)(h1:aT l iP=some (.ref 2))(h2:aT l dc=some (.int 0))
  (hΦ:∀l',aT l' aR=some bg->aT l' iP=some (.ref 2)->aT l' dc=some (.int 1)->Φ (.next l') (bE {h with c2:=.list L} true t left [])):
  (blk (fs aA (n+120)) l (bE {h with c2:=.list L} false t left []) Aq).Al Φ Ψ:=by
 refine aZ (n:=n+119) (cK (n:=n+118) (cK (n:=n+117) (aD (n:=n+116) h1 (aD (n:=n+116) h2 ⟨.tup [.int 1,j9],Uh (pre:=[]) rfl hL,?_⟩))));refine ao (v:=.int 1) (g:=bE {h with c2:=.list L} false t left []) (by kernel_rfl) ⟨j9,by kernel_rfl,?_⟩
 have k0:aT (bY l bR j9) aR=some bg:=by rw[aa _ _ (by decide),h0]
 have k1:aT (bY l bR j9) iP=some (.ref 2):=by rw[aa _ _ (by decide),h1]
 have k2:aT (bY l bR j9) dc=some (.int 0):=by rw[aa _ _ (by decide),h2]
 have k3:=au l bR j9;refine b8 (n:=n+119) (bh (n:=n+119) (aG (aq k3 (dO _)) (ao (v:=.bool true) (g:=bE {h with c2:=.list L} false t left []) (by kernel_rfl) ⟨true,rfl,?_⟩)))
 have heq:(fs aA (n+118)).e [(aR,bg),(bR,j9)] (bE {h with c2:=.list L} false t left []) (.mcall (.attr (.loc 499850046565) aX) [97,100,100] [.sub (.loc 1936745827) (.int 1)])=.ok .none (bE {h with c2:=.list L} true t left []):=by kernel_rfl
 refine bJ (n:=n+118) (aG (aq k0 (aq k3 (dO _))) ?_);refine ao heq (all_nil ?_);refine IF (n:=n+120) (BR (n:=n+118) k2 (all_nil ?_));refine hΦ _ ?_ ?_ ?_
 ·rw[aa _ _ (by decide),k0]
 ·rw[aa _ _ (by decide),k1]
 ·exact au _ dc _
theorem oG(h:Hd)(imp:Bool)(left n:Nat)(L:List V){Φ:Fl->G->Prop}{Ψ:Prop}:∀(ps:List (V×Sp))(pre:List V)(t:T)(l:Loc)(m:Nat),L=pre++eZ ps->ps.length<=m->aT l aR=some bg->aT l iP=some (.ref 2)->aT l dc=some (.int (pre.length:Nat))->
  (∀t' k l',TG imp t (ps.map λq:V×Sp=>q.2) pre.length=some (t',(ps.map λq:V×Sp=>q.2).drop (k - pre.length),k)->pre.length<=k->k<=pre.length+ps.length->aT l' dc=some (.int (k:Nat))->Φ (.next l') (bE {h with c2:=.list L} imp t' left []))->(TG imp t (ps.map λq:V×Sp=>q.2) pre.length=none->Ψ)->
  ((fs aA (n+m+122)).s l (bE {h with c2:=.list L} imp t left []) (.whl GH Aq)).Al Φ Ψ
 |[],pre,t,l,m,hL,hm,h0,h1,h2,hΦ,hΨ=>by refine wh (n:=n+m+121) ?_;rw[show n+m+121=(n+m+101)+20 from rfl];refine dM h imp t left _ L pre l [] hL h1 h2 (hΦ t pre.length l ?_ (Nat.le_refl _) (Nat.le_add_right _ _) h2);rw[Nat.sub_self];rfl
 |p::ps,pre,t,l,m,hL,hm,h0,h1,h2,hΦ,hΨ=>by
  obtain⟨a,sp⟩:=p;refine wh (n:=n+m+121) ?_;rw[show n+m+121=(n+m+101)+20 from rfl];have hL':L=pre++V.tup [a,sp.v]::eZ ps:=hL;have stop:(∀k,TG imp t (sp::ps.map λq:V×Sp=>q.2) k=some (t,sp::ps.map λq:V×Sp=>q.2,k))->Φ (.next l) (bE {h with c2:=.list L} imp t left []):=λe=>hΦ t pre.length l (by rw[Nat.sub_self];exact e _) (Nat.le_refl _) (Nat.le_add_right _ _) h2
  cases sp with
  |param nm=>
   refine dM h imp t left _ L pre l _ hL' h1 h2 ⟨a,bG,[],_,rfl,?_⟩;rw[show(n+m+101)+20=(n+m+1)+120 from rfl];have hlead:∀k,TG imp t (Sp.param nm::ps.map λq:V×Sp=>q.2) k=match t.addParam imp nm with|none=>none|some t=>TG imp t (ps.map λq:V×Sp=>q.2) (k+1):=λk=>rfl
   refine DE h imp t left (n+m+1) L pre l a nm _ hL' h0 h1 h2 (λt' l' e w0 w1 w2=>?_) (λe=>hΨ ((hlead _).trans (by rw[e])))
   obtain⟨m',rfl⟩:∃m',m=m'+1:=Nat.exists_eq_add_of_le' (Nat.le_trans (Nat.succ_le_succ (Nat.zero_le _)) hm);have hl1:(pre++[V.tup [a,(Sp.param nm).v]]).length=pre.length+1:=by simp
   have ih:=oG h imp left n L (Φ:=Φ) (Ψ:=Ψ) ps (pre++[V.tup [a,(Sp.param nm).v]]) t' l' m' (by rw[hL'];simp) (Nat.le_of_succ_le_succ hm) w0 w1 (by rw[hl1];exact w2)
   rw[hl1]at ih;refine ih (λt'' k l'' e' hk1 hk2 hk3=>hΦ t'' k l'' ?_ (Nat.le_of_succ_le hk1) (Nat.le_trans hk2 (Nat.le_of_eq (Nat.add_right_comm _ 1 _))) hk3) (λe'=>hΨ ((hlead _).trans (by rw[e];exact e')))
   refine(hlead _).trans ?_;rw[e];refine e'.trans ?_;show _=some (t'',(Sp.param nm::ps.map λq:V×Sp=>q.2).drop (k - pre.length),k);rw[show k - pre.length=(k - (pre.length+1))+1 from(Nat.sub_add_cancel (Nat.sub_pos_of_lt hk1)).symm,List.drop_succ_cons]
  |type nm k d=>exact dM h imp t left _ L pre l _ hL' h1 h2 ⟨a,jX,[],_,rfl,stop λk=>rfl⟩
  |dimension nm=>exact dM h imp t left _ L pre l _ hL' h1 h2 ⟨a,qZ,[],_,rfl,stop λk=>rfl⟩
  |common nm c d=>exact dM h imp t left _ L pre l _ hL' h1 h2 ⟨a,ir,[],_,rfl,stop λk=>rfl⟩
  |external nm=>exact dM h imp t left _ L pre l _ hL' h1 h2 ⟨a,cC,[],_,rfl,stop λk=>rfl⟩
  |aB nm=>exact dM h imp t left _ L pre l _ hL' h1 h2 ⟨a,bQ,[],_,rfl,stop λk=>rfl⟩
  |save nm=>exact dM h imp t left _ L pre l _ hL' h1 h2 ⟨a,pq,[],_,rfl,stop λk=>rfl⟩
noncomputable def iS(imp:Bool)(ps:List (V×Sp)):List V:=match imp with
 |true=>.tup [.int 1,j9]::eZ ps
 |false=>eZ ps
noncomputable def gB(imp:Bool):Nat:=match imp with
 |true=>1
 |false=>0
theorem wk(h:Hd)(imp:Bool)(t:T)(left n m:Nat)(ps:List (V×Sp))(hm:ps.length<=m){P:V->G->Prop}{Ψ:Prop}
  (hP:∀t' k,TG imp t (ps.map λq:V×Sp=>q.2) (gB imp)=some (t',(ps.map λq:V×Sp=>q.2).drop (k - gB imp),k)->gB imp<=k->k<=gB imp+ps.length->P (.int (k:Nat)) (bE {h with c2:=.list (iS imp ps)} imp t' left []))
  (hΨ:TG imp t (ps.map λq:V×Sp=>q.2) (gB imp)=none->Ψ):
  ((fs aA (n+m+124)).c (bE {h with c2:=.list (iS imp ps)} false t left []) (.fn 726) [bg,.ref 2]).Al P Ψ:=by
 refine dU (n:=n+m+123) rfl rfl rfl ?_;refine aZ (n:=n+m+122) (ao (v:=.int 0) (g:=bE {h with c2:=.list (iS imp ps)} false t left []) (by kernel_rfl) ?_)
 refine cy (C:=aA) (n:=n+m+123) ?_;have fin:∀(l:Loc)(k:Nat)(g:G),aT l dc=some (.int (k:Nat))->P (.int (k:Nat)) g->Tc aA (n+m+123) [.ret (some (.loc 427071729268))] (λx g=>match x with| .ret v=>P v g| .next _=>P .none g| .cont _=>False) Ψ (.next l) g:=λl k g hk hp=>IF (bW (n:=n+m+122) (aD (n:=n+m+121) hk hp))
 cases imp with
 |false=>refine oG h false left n (eZ ps) ps [] t _ (m+1) rfl (Nat.le_succ_of_le hm) rfl rfl rfl (λt' k l' e h1 h2 h3=>fin l' k _ h3 (hP t' k e h1 h2)) hΨ
 |true=>refine wh (n:=n+m+122) ?_;refine dM h false t left (n+m+102) _ [] _ (.tup [.int 1,j9]::eZ ps) rfl rfl rfl ⟨.int 1,lJ,[],_,rfl,?_⟩;rw[show(n+m+102)+20=(n+m+2)+120 from rfl];refine DG h t left (n+m+2) _ _ (eZ ps) rfl rfl rfl rfl λl' w0 w1 w2=>?_;rw[show(n+m+2)+120=n+m+122 from rfl];exact oG h true left n (iS true ps) ps [.tup [.int 1,j9]] t l' m rfl hm w0 w1 w2 (λt' k l' e h1 h2 h3=>fin l' k _ h3 (hP t' k e h1 h2)) hΨ
set_option genCtorIdx true in
inductive Kd where
 |prog|fM|func
 deriving DecidableEq
set_option genCtorIdx true in
inductive Dl where
 |d0|dC|EG|dS|dB
 deriving DecidableEq
noncomputable def Dl.l:Dl->List Nm
 | .d0=>[]| .dC=>[.c]| .EG=>[.i,.c]| .dS=>[.s]| .dB=>[.b]
noncomputable def Kd.s:Kd->S
 | .prog=>i7| .fM=>[115,117,98,114,111,117,116,105,110,101]| .func=>cX
noncomputable def Kd.nm:Kd->S
 | .func=>nB|_=>[80]
noncomputable def Kl.drawn:Kl->Bool
 | .k0=>true| .k1=>true| .k2=>true| .k3=>true|_=>false
noncomputable def Rb:Option Kl->V
 |none=>.none
 |some k=>.tup [k.kind,.none]
noncomputable def aC(kd:Kd)(d:Dl)(r:Option Kl):By:=.dict [(cu,some (.str kd.s)),(bX,some (.str kd.nm)),(dH,some (.lst (d.l.map λn=>.str n.str))),(aW,some (Rb r)),
  (cQ,some (.ref 2)),(dI,some (.ref 3)),(fh,some (.ref 4)),(i6,some (.dct [])),(jJ,some (.dct [])),(eF,some (.dct []))]
 [cu,bX,dH,aW,cQ,dI,fh,i6,jJ,eF]
noncomputable def Kd.res:Kd->V
 | .func=>.lst [.str nB]|_=>.lst []
noncomputable def T.rF(t:T)(imp:Bool):Option Kl->Option T
 |none=>some t
 |some k=>t.gb imp .b k
noncomputable def T.heads(t:T)(imp:Bool)(kd:Kd)(d:Dl)(r:Option Kl):Option T:=match kd with
 | .func=>match t.rF imp r with
  |none=>none
  |some t=>match(((t.need .b imp).mark imp d.l).sym .b imp).bF with
   |true=>none
   |false=>some ((t.need .b imp).mark imp d.l)
 |_=>some (t.mark imp d.l)
namespace iU
variable{β:Type}
noncomputable def one(p:iU β):iU (NS->β):=.ns (.f2 (.o (.f3 p) (.f (.f3 p))))
noncomputable def du(p:iU β):iU (Option Sy->Bool->Bool->Bool->β):=.o (.f3 p) (.sy (.f (.b (.f2 (.f3 (.f3 p))) (.f2 (.f3 (.f3 p))))))
noncomputable def b4(p:iU β):iU (Bool->Bool->β):=.b (.b p p) (.b p p)
end iU
noncomputable def kk(x y:Bool):Kl:=match x,y with
 |false,false=>.k0
 |false,true=>.k1
 |true,false=>.k2
 |true,true=>.k3
theorem ng{k:Kl}(h:k.drawn=true):∃x y,k=kk x y:=by
 cases k with
 |k0=>exact⟨false,false,rfl⟩
 |k1=>exact⟨false,true,rfl⟩
 |k2=>exact⟨true,false,rfl⟩
 |k3=>exact⟨true,true,rfl⟩
 |_=>exact nomatch h
theorem EC{β:Type}{L R:T->Bool->Bool->Bool->β}(p:iU (Bool->Bool->NS->NS->NS->NS->Bool->β))(h:∀t:T,(p.s λx y b i c s imp=>L ((((t.set .b b).set .i i).set .c c).set .s s) x y imp)=p.s2 λx y b i c s imp=>R ((((t.set .b b).set .i i).set .c c).set .s s) x y imp)(x y:Bool)(t:T)(imp:Bool):L t x y imp=R t x y imp:=
 congrFun (congrFun (congrFun (congrFun (congrFun (congrFun (congrFun (p.i (h t)) x) y) t.b) t.i) t.c) t.s) imp
section
variable(h:Hd)(left n:Nat)
noncomputable def hL(kd:Kd)(d:Dl)(r:Option Kl)(t:T)(imp:Bool):R V:=(fs aA (n+90)).c (bE {h with c1:=aC kd d r} imp t left []) (.fn 733) [bg,.inst 793 1]
noncomputable def hR(kd:Kd)(d:Dl)(r:Option Kl)(t:T)(imp:Bool):R V:=TX {h with c1:=aC kd d r} imp left [] kd.res (t.heads imp kd d r)
theorem Ar(t:T)(imp:Bool):hL h left n .prog .d0 none t imp=hR h left .prog .d0 none t imp:=by kernel_rfl
theorem s8:∀(x y:Bool)(t:T)(imp:Bool),hL h left n .fM .dC none t imp=hR h left .fM .dC none t imp:=EC (.f2 (.f2 (.one (.f (.b .id .id))))) λt=>by kernel_rfl
theorem rG:∀(x y:Bool)(t:T)(imp:Bool),hL h left n .fM .EG none t imp=hR h left .fM .EG none t imp:=EC (.f2 (.f (.one (.one (.f (.b .id .id)))))) λt=>by kernel_rfl
theorem s9:∀(x y:Bool)(t:T)(imp:Bool),hL h left n .fM .dS none t imp=hR h left .fM .dS none t imp:=EC (.f2 (.f3 (.one .id))) λt=>by kernel_rfl
theorem tw:∀(x y:Bool)(t:T)(imp:Bool),hL h left n .fM .dB none t imp=hR h left .fM .dB none t imp:=EC (.f2 (.one .id)) λt=>by kernel_rfl
theorem Au:∀(x y:Bool)(t:T)(imp:Bool),hL h left n .func .dC none t imp=hR h left .func .dC none t imp:=EC (.f2 (.ns (.f2 (.du (.f (.one (.f (.b .id .id)))))))) λt=>by kernel_rfl
theorem yI:∀(x y:Bool)(t:T)(imp:Bool),hL h left n .func .EG none t imp=hR h left .func .EG none t imp:=EC (.f2 (.ns (.f2 (.du (.one (.one (.f (.b .id .id)))))))) λt=>by kernel_rfl
theorem Av:∀(x y:Bool)(t:T)(imp:Bool),hL h left n .func .dS none t imp=hR h left .func .dS none t imp:=EC (.f2 (.ns (.f2 (.du (.f2 (.one .id)))))) λt=>by kernel_rfl
theorem Aw:∀(x y:Bool)(t:T)(imp:Bool),hL h left n .func .dB none t imp=hR h left .func .dB none t imp:=EC (.f2 (.ns (.f2 (.du .id)))) λt=>by kernel_rfl
theorem Ax:∀(x y:Bool)(t:T)(imp:Bool),hL h left n .func .dC (some (kk x y)) t imp=hR h left .func .dC (some (kk x y)) t imp:=EC (.b4 (.ns (.b (.o (.du (.f (.one (.f (.b .id .id))))) .id) .id))) λt=>by kernel_rfl
theorem yJ:∀(x y:Bool)(t:T)(imp:Bool),hL h left n .func .EG (some (kk x y)) t imp=hR h left .func .EG (some (kk x y)) t imp:=EC (.b4 (.ns (.b (.o (.du (.one (.one (.f (.b .id .id))))) .id) .id))) λt=>by kernel_rfl
theorem Ay:∀(x y:Bool)(t:T)(imp:Bool),hL h left n .func .dS (some (kk x y)) t imp=hR h left .func .dS (some (kk x y)) t imp:=EC (.b4 (.ns (.b (.o (.du (.f2 (.one .id))) .id) .id))) λt=>by kernel_rfl
theorem Az:∀(x y:Bool)(t:T)(imp:Bool),hL h left n .func .dB (some (kk x y)) t imp=hR h left .func .dB (some (kk x y)) t imp:=EC (.b4 (.ns (.b (.o (.du .id) .id) .id))) λt=>by kernel_rfl
noncomputable def RJ(kd:Kd)(d:Dl)(r:Option Kl):Bool:=match kd,d,r with
 | .prog,.d0,none=>true
 | .fM,.d0,_=>false
 | .fM,_,none=>true
 | .func,.d0,_=>false
 | .func,_,none=>true
 | .func,_,some k=>k.drawn
 |_,_,_=>false
theorem GI{kd:Kd}{d:Dl}{r:Option Kl}(t:T)(imp:Bool)(ok:RJ kd d r=true):hL h left n kd d r t imp=hR h left kd d r t imp:=by
 cases kd with
 |prog=>
  cases d with
  |d0=>
   cases r with
   |none=>exact Ar h left n t imp
   |some k=>exact nomatch ok
  |_=>exact nomatch ok
 |fM=>
  cases r with
  |some k=>cases d<;>exact nomatch ok
  |none=>
   cases d with
   |d0=>exact nomatch ok
   |dC=>exact s8 h left n false false t imp
   |EG=>exact rG h left n false false t imp
   |dS=>exact s9 h left n false false t imp
   |dB=>exact tw h left n false false t imp
 |func=>
  cases r with
  |none=>
   cases d with
   |d0=>exact nomatch ok
   |dC=>exact Au h left n false false t imp
   |EG=>exact yI h left n false false t imp
   |dS=>exact Av h left n false false t imp
   |dB=>exact Aw h left n false false t imp
  |some k=>
   cases d with
   |d0=>exact nomatch ok
   |dC=>obtain⟨x,y,rfl⟩:=ng (k:=k) ok;exact Ax h left n x y t imp
   |EG=>obtain⟨x,y,rfl⟩:=ng (k:=k) ok;exact yJ h left n x y t imp
   |dS=>obtain⟨x,y,rfl⟩:=ng (k:=k) ok;exact Ay h left n x y t imp
   |dB=>obtain⟨x,y,rfl⟩:=ng (k:=k) ok;exact Az h left n x y t imp
end
end Mine
namespace Mine
theorem GJ(h:Hd)(imp:Bool)(t:T)(left n:Nat)(st:St):(fs aA (n+80)).c (bE h imp t left [4]) (.fn 677) [bg,st.v]=.ok .none (bE h imp (t.note imp st) left [4]):=by
 cases st with
 |assign nm=>exact rA h left n t nm imp
 |pP nm=>exact yG h left n t nm imp
 |call nm=>exact v5 h left n t nm imp
 |read nm=>exact v7 h left n t nm imp
noncomputable def gf(imp:Bool):T->List St->T
 |t,[]=>t
 |t,s::r=>gf imp (t.note imp s) r
abbrev ji:Nat:=465490306412
abbrev jF:Nat:=1937010036
abbrev jc:Nat:=28276610518574451
abbrev iQ:Nat:=1651467385
noncomputable def Tg(l:List (V×St×V)):List V:=l.map λp=>.tup [p.1,p.2.1.v,p.2.2]
theorem uE(h:Hd)(imp:Bool)(left n:Nat){Φ:Fl->G->Prop}{Ψ:Prop}:∀(ps:List (V×St×V))(t:T)(l:Loc),aT l aR=some bg->
  (∀l',(∀x,x≠ji->x≠jF->x≠bN->aT l' x=aT l x)->Φ (.next l') (bE h imp (gf imp t (ps.map λq:V×St×V=>q.2.1)) left [4]))->
  (loop (fs aA (n+82)) (λl v=>SK l [ji,jF,bN] v) [.expr (.call (.glob 521516288922651466753395) [.loc aR,.loc jF])] l (bE h imp t left [4]) (Tg ps)).Al Φ Ψ
 |[],t,l,hl,hΦ=>aN (hΦ l λ_ _ _ _=>rfl)
 |p::ps,t,l,hl,hΦ=>by
  have w0:aT (bY (bY (bY l ji p.1) jF p.2.1.v) bN p.2.2) aR=some bg:=by rw[aa _ _ (by decide),aa _ _ (by decide),aa _ _ (by decide),hl]
  have w1:aT (bY (bY (bY l ji p.1) jF p.2.1.v) bN p.2.2) jF=some p.2.1.v:=by rw[aa _ _ (by decide),au]
  refine aM (l1:=bY (bY (bY l ji p.1) jF p.2.1.v) bN p.2.2) rfl (bJ (n:=n+81) (aG (aq w0 (aq w1 (dO _))) ?_));refine SM (y:=(fs aA (n+80)).c (bE h imp t left [4]) (.fn 677) [bg,p.2.1.v]) (by kernel_rfl) ?_
  refine ao (GJ h imp t left n p.2.1) (all_nil ?_);exact uE h imp left n ps _ _ w0 λl' hk=>hΦ l' λx h1 h2 h3=>by rw[hk x h1 h2 h3,aa _ _ h3,aa _ _ h2,aa _ _ h1]
noncomputable def lR:Option Nm->List V
 |none=>[]
 |some n=>[.tup [.int 20,.str n.str,.lst [.str nJ],eY]]
noncomputable def kK(imp:Bool)(t:T):Option Nm->Option T
 |none=>some t
 |some n=>match t.addSt imp n with
  |none=>none
  |some t=>some (t.need .j imp)
theorem GK(h:Hd)(imp:Bool)(t:T)(left n:Nat)(o:Option Nm)(l:Loc){Φ:Fl->G->Prop}{Ψ:Prop}(hl:aT l aR=some bg)
  (hΦ:∀t' l',kK imp t o=some t'->(∀x,x≠bN->x≠iF->x≠jc->x≠iQ->aT l' x=aT l x)->Φ (.next l') (bE h imp t' left [3])) (hΨ:kK imp t o=none->Ψ):
  (loop (fs aA (n+82)) (λl v=>SK l [bN,iF,jc,iQ] v) [.expr (.call (.glob 459921455872196893568611) [.loc aR,.loc iF,.loc jc,.loc iQ]),.expr (.call (.glob 521516288922651466753395) [.loc aR,.loc iQ])] l (bE h imp t left [3]) (lR o)).Al Φ Ψ:=by
 cases o with
 |none=>exact aN (hΦ t l rfl λ_ _ _ _ _=>rfl)
 |some nm=>
  have w0:aT (bY (bY (bY (bY l bN (.int 20)) iF (.str nm.str)) jc (.lst [.str nJ])) iQ eY) aR=some bg:=by rw[aa _ _ (by decide),aa _ _ (by decide),aa _ _ (by decide),aa _ _ (by decide),hl]
  have w1:aT (bY (bY (bY (bY l bN (.int 20)) iF (.str nm.str)) jc (.lst [.str nJ])) iQ eY) iF=some (.str nm.str):=by rw[aa _ _ (by decide),aa _ _ (by decide),au]
  have w2:aT (bY (bY (bY (bY l bN (.int 20)) iF (.str nm.str)) jc (.lst [.str nJ])) iQ eY) jc=some (.lst [.str nJ]):=by rw[aa _ _ (by decide),au]
  have w3:aT (bY (bY (bY (bY l bN (.int 20)) iF (.str nm.str)) jc (.lst [.str nJ])) iQ eY) iQ=some eY:=au _ _ _;refine aM (l1:=bY (bY (bY (bY l bN (.int 20)) iF (.str nm.str)) jc (.lst [.str nJ])) iQ eY) rfl (bJ (n:=n+81) (aG (aq w0 (aq w1 (aq w2 (aq w3 (dO _))))) ?_));refine SM (y:=(fs aA (n+80)).c (bE h imp t left [3]) (.fn 670) [bg,.str nm.str,.lst [.str nJ],eY]) (by kernel_rfl) ?_
  refine SM (GA h left n t nm imp) ?_;cases e:t.addSt imp nm with
  |none=>exact m9 (hΨ (by show(match t.addSt imp nm with|none=>none|some t=>some (t.need .j imp))=none;rw[e]))
  |some t'=>
   refine ao (v:=.none) (g:=bE h imp t' left [3]) rfl (bJ (n:=n+81) (aG (aq w0 (aq w3 (dO _))) ?_));refine SM (y:=(fs aA (n+80)).c (bE h imp t' left [3]) (.fn 677) [bg,eY]) (by kernel_rfl) ?_
   refine ao (DC h left n t' imp) (all_nil (aN (hΦ _ _ ?_ λx h1 h2 h3 h4=>?_)))
   ·show(match t.addSt imp nm with|none=>none|some t=>some (t.need .j imp))=_;rw[e]
   ·rw[aa _ _ h4,aa _ _ h3,aa _ _ h2,aa _ _ h1]
abbrev NO:Nat:=7106423
abbrev GL:Nat:=1751738216
abbrev qd:Nat:=126965363404652
abbrev bZ:Nat:=32199693910701171
noncomputable abbrev yK:ME:=.attr (.loc 499850046565) br
noncomputable def Mv:MS:=.g8 [7106423,1751738216] (.attr (.sub yK (.loc 1851878757)) bL) [.expr (.call (.glob 521516288922651466753395) [.loc 499850046565,.lst 0 [.loc 7106423,.loc 1751738216]])]
noncomputable def PB(n:Nm):Dm->Loc
 | .d0=>[(aR,bg),(iF,.str n.str)]
 | .d1=>[(aR,bg),(iF,.str n.str),(NO,.none),(GL,.tup [.str gY,.int 4])]
 | .d2=>[(aR,bg),(iF,.str n.str),(NO,.none),(GL,.none)]
 | .d3=>[(aR,bg),(iF,.str n.str),(NO,.none),(GL,.tup [.str gY,.int 3])]
section
variable(h:Hd)(left n:Nat)(imp:Bool)
theorem KV:∀(t:T)(nm:Nm)(x:Sy),(t.get nm).sy=some x->(fs aA (n+40)).s [(aR,bg),(iF,.str nm.str)] (bE h imp t left []) Mv=.ok (.next (PB nm x.dims)) (bE h imp t left []):=
 NJ (.sy (.f2 (.f2 (.dm .id .id .id)))) λt=>by kernel_rfl
theorem GN:∀(t:T)(nm:Nm)(x:Sy),(t.get nm).sy=some x->(fs aA (n+40)).e [(aR,bg),(iF,.str nm.str)] (bE h imp t left [21]) (.sub yK (.loc 1851878757))=.ok (kH nm) (bE h imp t left [21]):=
 NJ .id λt=>by kernel_rfl
theorem wm:∀(t:T)(nm:Nm)(x:Sy),(t.get nm).sy=some x->(fs aA (n+81)).e [(aR,bg),(iF,.str nm.str)] (bE h imp t left [21]) (.call (.glob 30765223050532546019544166252) [.loc 499850046565,.sub yK (.loc 1851878757)])=(fs aA (n+20+60)).c (bE h imp t left [21]) (.fn 712) [bg,kH nm]:=
 NJ .id λt=>by kernel_rfl
end
noncomputable def Sy.resOk(x:Sy):Bool:=match x.use with
 | .var=>match x.fV with
  | .no=>!x.d9
  |_=>false
 |_=>false
noncomputable def PC:ME:=.or [.cmp 1 (.attr (.loc 126965363404652) bO) (.str eo),.cmp 7 (.attr (.loc 126965363404652) aJ) (.none),.attr (.loc 126965363404652) cg]
theorem GO(h:Hd)(left n:Nat)(imp:Bool):∀(t:T)(nm:Nm)(x:Sy),(t.get nm).sy=some x->(fs aA (n+40)).e [(qd,kH nm)] (bE h imp t left [21]) PC=.ok (.bool (!x.resOk)) (bE h imp t left [21]):=
 NJ (.sy (.b (.f (.us (.cm .id .id) .id .id .id)) (.f (.us (.cm .id .id) .id .id .id)))) λt=>by kernel_rfl
noncomputable def Kd.dW(k:Kd)(n:Nm):Bool:=match k,n with
 | .func,.b=>true
 |_,_=>false
theorem yL(g:G)(n:Nat)(kd:Kd)(nm:Nm):(fs aA (n+40)).e [(iF,.str nm.str),(bZ,kd.res)] g (.cmp 8 (.loc 1851878757) (.loc 32199693910701171))=.ok (.bool (kd.dW nm)) g:=by revert nm;refine Mt ?_;cases kd<;>kernel_rfl
theorem BS{C:Cfg}{n:Nat}{l l0 l1:Loc}{g g':G}{s:MS}{Φ:Fl->G->Prop}{Ψ:Prop}(h:Le l0 l)(q:(fs C n).s l0 g s=.ok (.next l1) g')(p:∀l',Le l1 l'->Φ (.next l') g'):((fs C n).s l g s).Al Φ Ψ:=by
 have r:=(BQ C n).s l0 l g s h;rw[q]at r;refine r.al (Φ:=λx g=>x=.next l1/\g=g') (λa a' g hr hp=>?_) (bu ⟨rfl,rfl⟩);obtain⟨rfl,rfl⟩:=hp;cases hr with
 |next h'=>exact p _ h'
noncomputable def has(t:T)(n:Nm):Prop:=∃x,(t.get n).sy=some x
noncomputable def I4(L:List Nm):List V:=L.map λn=>.str n.str
theorem rH(h:Hd)(imp:Bool)(t:T)(left n:Nat){Φ:Fl->G->Prop}{Ψ:Prop}:∀(L:List Nm)(l:Loc),(∀n∈L,has t n)->aT l aR=some bg->(∀l',aT l' aR=some bg->Φ (.next l') (bE h imp t left []))->
  (loop (fs aA (n+40)) (λl v=>some (bY l 1851878757 v)) [Mv] l (bE h imp t left []) (I4 L)).Al Φ Ψ
 |[],l,_,hl,hΦ=>aN (hΦ l hl)
 |nm::L,l,hL,hl,hΦ=>by
  obtain⟨x,hx⟩:=hL nm (.head _);have w0:aT (bY l iF (.str nm.str)) aR=some bg:=by rw[aa _ _ (by decide),hl]
  have w1:=au l iF (.str nm.str);refine aM (l1:=bY l iF (.str nm.str)) rfl (cy (n:=n+40) (BS (aq w0 (aq w1 (dO _))) (KV h left n imp t nm x hx) λl' hle=>cV ?_));refine rH h imp t left n L l' (λn hn=>hL n (.tail _ hn)) (hle _ _ ?_) hΦ;cases x.dims<;>rfl
theorem tB(h:Hd)(imp:Bool)(t:T)(left n:Nat)(L:List Nm)(hso:t.so=L.map Nm.str)(hL:∀n∈L,has t n){P:V->G->Prop}{Ψ:Prop}(hP:P .none (bE h imp t left [])):
  ((fs aA (n+42)).c (bE h imp t left []) (.fn 719) [bg]).Al P Ψ:=by
 refine dU (n:=n+41) rfl rfl rfl ?_;refine gZ (n:=n+40) (ao (v:=.lst (t.so.map V.str)) (g:=bE h imp t left []) (by kernel_rfl) ⟨_,rfl,?_⟩)
 rw[hso,List.map_map];refine rH h imp t left n L [(499850046565,bg)] hL rfl λl' hl=>?_;refine IF (n:=n+41) (gc (n:=n+40) (aG (aq hl (dO _)) (ao (v:=.lst []) (g:=bE h imp t left []) (by kernel_rfl) ⟨_,rfl,aN (cV (n:=n+41) hP)⟩)))
noncomputable def bK:T->List Nm->Option T
 |t,[]=>some t
 |t,n::r=>match(t.get n).sy with
  |none=>none
  |some x=>match t.setCalled n x with
   |none=>none
   |some t=>bK t r
theorem qe{t:T}{n m:Nm}{x:Sy}(h:has t m):has (t.aY n x) m:=by obtain⟨y,hy⟩:=h;cases n<;>cases m<;>first|exact⟨_,hy⟩|exact⟨x,rfl⟩
theorem lV{t t':T}{n:Nm}{x:Sy}(e:t.setCalled n x=some t'):∃y,t'=t.aY n y:=by
 unfold T.setCalled at e;split at e<;>try (cases e;done)
 all_goals
  split at e<;>try (cases e;done)
  split at e<;>first|(cases e;done)|exact⟨_,(Option.some.inj e).symm⟩
theorem kL{t t':T}{n:Nm}{x:Sy}(e:t.setApplied n x=some t'):t'=t\/∃y,t'=t.aY n y:=by
 unfold T.setApplied at e;split at e
 ·exact .inl (Option.some.inj e).symm
 ·exact .inl (Option.some.inj e).symm
 ·exact .inl (Option.some.inj e).symm
 ·cases e
 ·split at e<;>try (cases e;done)
  split at e<;>try (cases e;done)
  split at e
  ·exact .inr ⟨_,(Option.some.inj e).symm⟩
  ·split at e
   ·exact .inr ⟨_,(Option.some.inj e).symm⟩
   ·split at e<;>exact .inr ⟨_,(Option.some.inj e).symm⟩
theorem pA(h:Hd)(imp:Bool)(left n:Nat){Φ:Fl->G->Prop}{Ψ:Prop}:∀(L:List Nm)(t:T)(l:Loc),(∀n∈L,has t n)->aT l aR=some bg->
  (∀t' l',bK t L=some t'->(∀x,x≠iF->aT l' x=aT l x)->Φ (.next l') (bE h imp t' left [24]))->(bK t L=none->Ψ)->
  (loop (fs aA (n+82)) (λl v=>some (bY l 1851878757 v)) [.expr (.call (.glob 9142637460321495011413199709540) [.loc 499850046565,.loc 1851878757])] l (bE h imp t left [24]) (I4 L)).Al Φ Ψ
 |[],t,l,_,hl,hΦ,hΨ=>aN (hΦ t l rfl λ_ _=>rfl)
 |nm::L,t,l,hL,hl,hΦ,hΨ=>by
  obtain⟨x,hx⟩:=hL nm (.head _);have w0:aT (bY l iF (.str nm.str)) aR=some bg:=by rw[aa _ _ (by decide),hl]
  have w1:=au l iF (.str nm.str);have hf:bK t (nm::L)=match t.setCalled nm x with|none=>none|some t=>bK t L:=by
   show(match(t.get nm).sy with|none=>none|some x=>match t.setCalled nm x with|none=>none|some t=>bK t L)=_
   rw[hx]
  refine aM (l1:=bY l iF (.str nm.str)) rfl (bJ (n:=n+81) (aG (aq w0 (aq w1 (dO _))) ?_));refine SM (y:=(fs aA (n+20+60)).c (bE h imp t left [24]) (.fn 698) [bg,.str nm.str]) (by kernel_rfl) ?_
  refine SM (v8 h left (n+20) imp t nm x hx) ?_;cases e:t.setCalled nm x with
  |none=>exact m9 (hΨ (by rw[hf,e]))
  |some t'=>rw[hf,e]at hΦ hΨ;obtain⟨y,rfl⟩:=lV e;refine ao (v:=.none) (g:=bE h imp (t.aY nm y) left [24]) rfl (all_nil ?_);exact pA h imp left n L _ _ (λm hm=>qe (hL m (.tail _ hm))) w0 (λt'' l' e' hk=>hΦ t'' l' e' λz hz=>by rw[hk z hz,aa _ _ hz]) hΨ
noncomputable def bz(kd:Kd):T->List Nm->Option T
 |t,[]=>some t
 |t,n::r=>match kd.dW n with
  |true=>none
  |false=>match(t.get n).sy with
   |none=>none
   |some x=>match t.setApplied n x with
    |none=>none
    |some t=>bz kd t r
theorem nh(h:Hd)(imp:Bool)(left n:Nat)(kd:Kd)(rs:S){Φ:Fl->G->Prop}{Ψ:Prop}:∀(L:List Nm)(t:T)(l:Loc),(∀n∈L,has t n)->aT l aR=some bg->aT l bZ=some kd.res->
  (∀t' l',bz kd t L=some t'->(∀x,x≠iF->aT l' x=aT l x)->Φ (.next l') (bE h imp t' left [23]))->(bz kd t L=none->Ψ)->
  (loop (fs aA (n+82)) (λl v=>some (bY l 1851878757 v)) [.ifs (.cmp 8 (.loc 1851878757) (.loc 32199693910701171)) [.raise rs] [],.expr (.call (.glob 2340515189842302722375339026769252) [.loc 499850046565,.loc 1851878757])] l (bE h imp t left [23]) (I4 L)).Al Φ Ψ
 |[],t,l,_,hl,hr,hΦ,hΨ=>aN (hΦ t l rfl λ_ _=>rfl)
 |nm::L,t,l,hL,hl,hr,hΦ,hΨ=>by
  obtain⟨x,hx⟩:=hL nm (.head _);have w0:aT (bY l iF (.str nm.str)) aR=some bg:=by rw[aa _ _ (by decide),hl]
  have w1:=au l iF (.str nm.str);have w2:aT (bY l iF (.str nm.str)) bZ=some kd.res:=by rw[aa _ _ (by decide),hr]
  have hf:bz kd t (nm::L)=match kd.dW nm with|true=>none|false=>match t.setApplied nm x with|none=>none|some t=>bz kd t L:=by
   show(match kd.dW nm with|true=>none|false=>match(t.get nm).sy with|none=>none|some x=>match t.setApplied nm x with|none=>none|some t=>bz kd t L)=_
   rw[hx]
  refine aM (l1:=bY l iF (.str nm.str)) rfl (b8 (n:=n+81) (bh (n:=n+81) (aG (aq w1 (aq w2 (dO _))) (ao (yL _ (n+41) kd nm) ⟨_,aK _ _,?_⟩))));cases hr':kd.dW nm with
  |true=>exact cy (C:=aA) (n:=n+81) (m9 (hΨ (by rw[hf,hr'])))
  |false=>
   rw[hr']at hf;refine all_nil (IF (n:=n+82) (bJ (n:=n+81) (aG (aq w0 (aq w1 (dO _))) ?_)));refine SM (y:=(fs aA (n+20+60)).c (bE h imp t left [23]) (.fn 691) [bg,.str nm.str]) (by kernel_rfl) ?_
   refine SM (s7 h left (n+20) imp t nm x hx) ?_;cases e:t.setApplied nm x with
   |none=>exact m9 (hΨ (by rw[hf,e]))
   |some t'=>
    rw[hf,e]at hΦ hΨ;have hh:∀m,has t m->has t' m:=by
     intro m hm;rcases kL e with rfl|⟨y,rfl⟩
     ·exact hm
     ·exact qe hm
    refine ao (v:=.none) (g:=bE h imp t' left [23]) rfl (all_nil ?_);exact nh h imp left n kd rs L t' _ (λm hm=>hh m (hL m (.tail _ hm))) w0 w2 (λt'' l' e' hk=>hΦ t'' l' e' λz hz=>by rw[hk z hz,aa _ _ hz]) hΨ
noncomputable def p5(kd:Kd)(t:T)(n:Nm):Bool:=match(t.get n).sy with
 |none=>false
 |some x=>match kd.dW n with
  |true=>x.resOk
  |false=>x.check
theorem jQ(h:Hd)(imp:Bool)(t:T)(left n:Nat)(kd:Kd)(rs:S){Φ:Fl->G->Prop}{Ψ:Prop}:∀(L:List Nm)(l:Loc),(∀n∈L,has t n)->aT l aR=some bg->aT l bZ=some kd.res->
  (∀l',L.all (p5 kd t)=true->Φ (.next l') (bE h imp t left [21]))->(L.all (p5 kd t)=false->Ψ)->
  (loop (fs aA (n+83)) (λl v=>some (bY l 1851878757 v)) [.ifs (.cmp 8 (.loc 1851878757) (.loc 32199693910701171)) [.asg 126965363404652 (.sub yK (.loc 1851878757)),.ifs PC [.raise rs] []] [.expr (.call (.glob 30765223050532546019544166252) [.loc 499850046565,.sub yK (.loc 1851878757)])]] l (bE h imp t left [21]) (I4 L)).Al Φ Ψ
 |[],l,_,hl,hr,hΦ,hΨ=>aN (hΦ l rfl)
 |nm::L,l,hL,hl,hr,hΦ,hΨ=>by
  obtain⟨x,hx⟩:=hL nm (.head _);have w0:aT (bY l iF (.str nm.str)) aR=some bg:=by rw[aa _ _ (by decide),hl]
  have w1:=au l iF (.str nm.str);have w2:aT (bY l iF (.str nm.str)) bZ=some kd.res:=by rw[aa _ _ (by decide),hr]
  have hf:(nm::L).all (p5 kd t)=((match kd.dW nm with|true=>x.resOk|false=>x.check)&&L.all (p5 kd t)):=by rw[List.all_cons];congr 1;unfold p5;rw[hx]
  rw[hf]at hΦ hΨ;refine aM (l1:=bY l iF (.str nm.str)) rfl (b8 (n:=n+82) (bh (n:=n+82) (aG (aq w1 (aq w2 (dO _))) (ao (yL _ (n+42) kd nm) ⟨_,aK _ _,?_⟩))));cases hr':kd.dW nm with
  |true=>
   rw[hr']at hΦ hΨ;obtain rfl:nm=.b:=by cases kd<;>cases nm<;>first|rfl|cases hr'
   refine aZ (n:=n+81) (aG (aq w0 (aq w1 (dO _))) (ao (GN h left (n+41) imp t .b x hx) ?_));have v0:aT (bY (bY l iF (.str Nm.b.str)) qd (kH .b)) aR=some bg:=by rw[aa _ _ (by decide),w0]
   have v2:aT (bY (bY l iF (.str Nm.b.str)) qd (kH .b)) bZ=some kd.res:=by rw[aa _ _ (by decide),w2]
   have v3:=au (bY l iF (.str Nm.b.str)) qd (kH .b);refine b8 (n:=n+81) (bh (n:=n+81) (aG (aq v3 (dO _)) (ao (GO h left (n+41) imp t .b x hx) ⟨_,aK _ _,?_⟩)));cases e:x.resOk with
   |false=>exact cy (C:=aA) (n:=n+81) (m9 (hΨ (by rw[e];rfl)))
   |true=>rw[e]at hΦ hΨ;refine all_nil (cV (n:=n+82) (cV (n:=n+83) ?_));exact jQ h imp t left n kd rs L _ (λm hm=>hL m (.tail _ hm)) v0 v2 (λl' e'=>hΦ l' e') (λe'=>hΨ e')
  |false=>
   rw[hr']at hΦ hΨ;refine bJ (n:=n+81) (aG (aq w0 (aq w1 (dO _))) ?_);refine SM (wm h left n imp t nm x hx) ?_;refine SM (GB h left (n+20) imp t nm x hx) ?_;cases e:x.check with
   |false=>exact m9 (hΨ (by rw[e];rfl))
   |true=>rw[e]at hΦ hΨ;refine ao (v:=.none) (g:=bE h imp t left [21]) rfl (all_nil (cV (n:=n+83) ?_));exact jQ h imp t left n kd rs L _ (λm hm=>hL m (.tail _ hm)) w0 w2 (λl' e'=>hΦ l' e') (λe'=>hΨ e')
structure Sm(t t':T):Prop where
 so:t'.so=t.so
 kh:t'.kh=t.kh
 kM:t'.kM=t.kM
 hs:∀m,has t m->has t' m
theorem Sm.refl(t:T):Sm t t:=⟨rfl,rfl,rfl,λ_ h=>h⟩
theorem Sm.trans{a b c:T}(h:Sm a b)(k:Sm b c):Sm a c:=⟨k.so.trans h.so,k.kh.trans h.kh,k.kM.trans h.kM,λm q=>k.hs m (h.hs m q)⟩
theorem GP{t:T}{n:Nm}{x:Sy}(h:has t n):Sm t (t.aY n x):=by
 refine⟨?_,?_,?_,λm q=>qe q⟩
 ·obtain⟨y,hy⟩:=h;have:(t.aY n x).so=qX (t.get n).sy.isSome n.str t.so:=by cases n<;>rfl
  rw[this,hy];rfl
 ·cases n<;>rfl
 ·cases n<;>rfl
set_option tactic.hygienic true in
theorem oH:∀{L:List Nm}{t t':T},(∀n∈L,has t n)->bK t L=some t'->Sm t t'
 |[],t,t',_,e=>by cases e;exact Sm.refl t
 |n::L,t,t',h,e=>by
  obtain⟨x,hx⟩:=h n (.head _);unfold bK at e;rw[hx]at e;dsimp only at e;split at e
  ·cases e
  ·rename_i t1 e1;obtain⟨y,rfl⟩:=lV e1;have s1:=GP (t:=t) (x:=y) (h n (.head _));exact s1.trans (oH (λm hm=>s1.hs m (h m (.tail _ hm))) e)
set_option tactic.hygienic true in
theorem mq{kd:Kd}:∀{L:List Nm}{t t':T},(∀n∈L,has t n)->bz kd t L=some t'->Sm t t'
 |[],t,t',_,e=>by cases e;exact Sm.refl t
 |n::L,t,t',h,e=>by
  obtain⟨x,hx⟩:=h n (.head _);unfold bz at e;rw[hx]at e;split at e
  ·cases e
  ·dsimp only at e;split at e
   ·cases e
   ·rename_i t1 e1;have s1:Sm t t1:=by
     rcases kL e1 with rfl|⟨y,rfl⟩
     ·exact Sm.refl _
     ·exact GP (h n (.head _))
    exact s1.trans (mq (λm hm=>s1.hs m (h m (.tail _ hm))) e)
noncomputable def S8(kd:Kd)(t:T)(L1 L2 L3:List Nm):Option T:=match bK t L1 with
 |none=>none
 |some t=>match bz kd t L2 with
  |none=>none
  |some t=>match L3.all (p5 kd t)with
   |true=>some t
   |false=>none
theorem AA(h:Hd)(imp:Bool)(t:T)(left n:Nat)(kd:Kd)(L1 L2 L3:List Nm)(h1:t.kM=L1.map Nm.str)(h2:t.kh=L2.map Nm.str)(h3:t.so=L3.map Nm.str)(k1:∀n∈L1,has t n)(k2:∀n∈L2,has t n)(k3:∀n∈L3,has t n)
  {P:V->G->Prop} {Ψ:Prop} (hP:∀t',S8 kd t L1 L2 L3=some t'->P .none (bE h imp t' left [])) (hΨ:S8 kd t L1 L2 L3=none->Ψ):
  ((fs aA (n+85)).c (bE h imp t left []) (.fn 740) [bg,kd.res]).Al P Ψ:=by
 refine dU (n:=n+84) rfl rfl rfl ?_;unfold S8 at hP hΨ;refine gZ (n:=n+83) (ao (v:=.ref 24) (g:=bE h imp t left []) (by kernel_rfl) ⟨t.kM.map V.str,rfl,?_⟩)
 rw[h1,List.map_map];refine pA h imp left (n+1) L1 t _ k1 rfl (λt1 l1 e1 hl1=>?_) (λe=>hΨ (by rw[e]))
 rw[e1]at hP hΨ;have s1:=oH k1 e1;have a0:aT l1 aR=some bg:=hl1 aR (by decide)
 have a1:aT l1 bZ=some kd.res:=hl1 bZ (by decide)
 refine IF (n:=n+84) (gZ (n:=n+83) (aG (aq a0 (dO _)) (ao (v:=.ref 23) (g:=bE h imp t1 left []) (by kernel_rfl) ⟨t1.kh.map V.str,rfl,?_⟩)))
 rw[s1.kh,h2,List.map_map];refine nh h imp left (n+1) kd _ L2 t1 l1 (λm hm=>s1.hs m (k2 m hm)) a0 a1 (λt2 l2 e2 hl2=>?_) (λe=>hΨ (by dsimp only;rw[e]))
 dsimp only at hP hΨ;rw[e2]at hP hΨ;have s2:=mq (λm hm=>s1.hs m (k2 m hm)) e2;have b0:aT l2 aR=some bg:=(hl2 aR (by decide)).trans a0
 have b1:aT l2 bZ=some kd.res:=(hl2 bZ (by decide)).trans a1
 refine IF (n:=n+84) (gZ (n:=n+83) (aG (aq b0 (dO _)) (ao (v:=.ref 21) (g:=bE h imp t2 left []) (by kernel_rfl) ⟨t2.so.map V.str,rfl,?_⟩)))
 rw[s2.so,s1.so,h3,List.map_map];refine jQ h imp t2 left n kd _ L3 l2 (λm hm=>s2.hs m (s1.hs m (k3 m hm))) b0 b1 (λl3 e3=>cV (n:=n+84) (hP t2 (by dsimp only;rw[e3]))) (λe=>hΨ (by dsimp only;rw[e]))
theorem PD{n m:Nm}(h:n≠m)(t:T)(x:Sy):(t.aY n x).get m=t.get m:=by cases n<;>cases m<;>first|rfl|exact absurd rfl h
theorem BU(n:Nm)(t:T)(x:Sy):(t.aY n x).get n={t.get n with sy:=some x}:=by cases n<;>rfl
noncomputable def vw(t:T)(m:Nm):Bool×Bool×Bool:=((t.get m).sy.isSome,(t.get m).ca,(t.get m).ap)
noncomputable def orI(a:Bool)(m n:Nm)(p:Bool):Bool:=match a with
 |true=>decide (m=n)||p
 |false=>p
noncomputable def NP(a was:Bool)(s:S)(l:List S):List S:=match a with
 |true=>qX was s l
 |false=>l
inductive Lst(p:Nm->Bool)(l:List S):Prop
 |mk (L:List Nm) (e:l=L.map Nm.str) (d:L.Nodup) (h:∀n,n∈L↔p n=true)
structure Wf(t:T):Prop where
 so':Lst (λm=>(vw t m).1) t.so
 Qt:Lst (λm=>(vw t m).2.1) t.kM
 Qu:Lst (λm=>(vw t m).2.2) t.kh
 ch':∀m,(vw t m).2.1=true->(vw t m).1=true
 RO:∀m,(vw t m).2.2=true->(vw t m).1=true
section
variable{t t':T}{n m:Nm}
theorem ni:(vw t n).1=true↔has t n:=Option.isSome_iff_exists
theorem Wf.so(h:Wf t):∃L:List Nm,t.so=L.map Nm.str/\L.Nodup/\∀n,n∈L↔has t n:=let ⟨L,e,d,k⟩:=h.so';⟨L,e,d,λn=>(k n).trans ni⟩
theorem Wf.kM(h:Wf t):∃L:List Nm,t.kM=L.map Nm.str/\L.Nodup/\∀n,n∈L↔(t.get n).ca=true:=let ⟨L,e,d,k⟩:=h.Qt;⟨L,e,d,k⟩
theorem Wf.kh(h:Wf t):∃L:List Nm,t.kh=L.map Nm.str/\L.Nodup/\∀n,n∈L↔(t.get n).ap=true:=let ⟨L,e,d,k⟩:=h.Qu;⟨L,e,d,k⟩
theorem Wf.ch(h:Wf t)(n:Nm)(q:(t.get n).ca=true):has t n:=ni.mp (h.ch' n q)
theorem Wf.ah(h:Wf t)(n:Nm)(q:(t.get n).ap=true):has t n:=ni.mp (h.RO n q)
theorem nj{a p:Bool}(h:p=true):orI a m n p=true:=by
 cases a with
 |true=>exact Bool.or_eq_true_iff.mpr (.inr h)
 |false=>exact h
theorem GQ{p:Bool}:orI true n n p=true:=Bool.or_eq_true_iff.mpr (.inl (decide_eq_true rfl))
theorem wu{a p:Bool}(h:orI a m n p=true):p=true\/(a=true/\m=n):=by
 cases a with
 |true=>exact(Bool.or_eq_true_iff.mp h).elim (λk=>.inr ⟨rfl,of_decide_eq_true k⟩) .inl
 |false=>exact .inl h
theorem wz{p:Nm->Bool}{l:List S}(h:Lst p l)(a:Bool)(n:Nm):Lst (λm=>orI a m n (p m)) (NP a (p n) n.str l):=by
 cases a with
 |false=>exact h
 |true=>
  obtain⟨L,e,d,k⟩:=h;cases q:p n with
  |true=>exact⟨L,e,d,λm=>(k m).trans ⟨nj (a:=true),λz=>(wu z).elim id λz=>z.2▸q⟩⟩
  |false=>
   refine⟨L++[n],?_,?_,λm=>?_⟩
   ·rw[List.map_append,<- e];rfl
   ·refine List.nodup_append.mpr ⟨d,List.nodup_cons.mpr ⟨List.not_mem_nil,.nil⟩,λx hx y hy z=>?_⟩;rw[List.mem_singleton.mp hy]at z;have:=(k x).mp hx;rw[z,q]at this;exact nomatch this
   ·rw[List.mem_append,k,List.mem_singleton];exact⟨λz=>z.elim (nj (a:=true)) λz=>z▸GQ,λz=>(wu z).imp id And.right⟩
structure RK(t t':T)(n:Nm)(a b c:Bool):Prop where
 v:∀m,vw t' m=(orI a m n (vw t m).1,orI b m n (vw t m).2.1,orI c m n (vw t m).2.2)
 so:t'.so=NP a (vw t n).1 n.str t.so
 kM:t'.kM=NP b (vw t n).2.1 n.str t.kM
 kh:t'.kh=NP c (vw t n).2.2 n.str t.kh
theorem oJ{f:Nm->T}{a b c:Bool}(h:(kI λn=>(kI λm=>vw (f n) m,(f n).so,(f n).kM,(f n).kh))=kJ λn=>(kJ λm=>(orI a m n (vw t m).1,orI b m n (vw t m).2.1,orI c m n (vw t m).2.2),NP a (vw t n).1 n.str t.so,NP b (vw t n).2.1 n.str t.kM,NP c (vw t n).2.2 n.str t.kh))(n:Nm):RK t (f n) n a b c:=
 ⟨jh (congrArg (·.1) (jh h n)),congrArg (·.2.1) (jh h n),congrArg (·.2.2.1) (jh h n),congrArg (·.2.2.2) (jh h n)⟩
theorem oK{a b c:Bool}(w:Wf t)(p:RK t t' n a b c)(hn:(b||c)=true->(vw t n).1=true):Wf t':=by
 have hv:vw t'=λm=>(orI a m n (vw t m).1,orI b m n (vw t m).2.1,orI c m n (vw t m).2.2):=funext p.v;refine⟨?_,?_,?_,λm q=>?_,λm q=>?_⟩
 ·rw[hv,p.so];exact wz w.so' a n
 ·rw[hv,p.kM];exact wz w.Qt b n
 ·rw[hv,p.kh];exact wz w.Qu c n
 ·rw[hv]at q ⊢;exact nj ((wu q).elim (w.ch' m) λz=>z.2▸hn (Bool.or_eq_true_iff.mpr (.inl z.1)))
 ·rw[hv]at q ⊢;exact nj ((wu q).elim (w.RO m) λz=>z.2▸hn (Bool.or_eq_true_iff.mpr (.inr z.1)))
theorem eH(h:Wf t)(n:Nm)(x:Sy):Wf (t.aY n x):=oK h (oJ (f:=λn=>t.aY n x) (a:=true) (b:=false) (c:=false) (by kernel_rfl) n) λz=>nomatch z
theorem GR(h:Wf t)(n:Nm):Wf (t.uC n):=oK h (oJ (f:=t.uC) (a:=false) (b:=false) (c:=false) (by kernel_rfl) n) λz=>nomatch z
theorem GS(h:Wf t)(n:Nm):Wf (t.yD n):=oK h (oJ (f:=t.yD) (a:=false) (b:=false) (c:=false) (by kernel_rfl) n) λz=>nomatch z
theorem GU(h:Wf t)(n:Nm)(v:Vl):Wf (t.yE n v):=oK h (oJ (f:=λn=>t.yE n v) (a:=false) (b:=false) (c:=false) (by kernel_rfl) n) λz=>nomatch z
theorem yM(h:Wf t)(n:Nm)(hn:has t n):Wf (t.pg n):=oK h (oJ (f:=t.pg) (a:=false) (b:=false) (c:=true) (by kernel_rfl) n) λ_=>ni.mpr hn
theorem yN(h:Wf t)(n:Nm)(hn:has t n):Wf (t.pn n):=oK h (oJ (f:=t.pn) (a:=false) (b:=true) (c:=false) (by kernel_rfl) n) λ_=>ni.mpr hn
theorem nk(t:T)(n:Nm)(imp:Bool):has (t.need n imp) n:=⟨_,congrArg NS.sy (BU n t _)⟩
theorem ez(h:Wf t)(n:Nm)(imp:Bool):Wf (t.need n imp):=eH h n _
noncomputable def yO:Option T->Prop
 |none=>True
 |some t=>Wf t
variable{imp:Bool}
theorem nu{k:Kl}(h:Wf t):yO (t.gb imp n k):=by
 unfold T.gb;cases (t.get n).ty with
 |true=>exact trivial
 |false=>
  cases (t.get n).co with
  |some _=>exact trivial
  |none=>exact eH (GR h n) n _
theorem jR{d:Dm}(h:Wf t):yO (t.c7 imp n d):=by
 have k:yO (match(t.sym n imp).use with
  | .var=>some (t.aY n {t.sym n imp with dims:=d,use:=.array})
  |_=>none):=by
  cases (t.sym n imp).use with
  |var=>exact eH h n _
  |_=>exact trivial
 cases d with
 |d0=>exact ez h n imp
 |_=>exact k
theorem nD(h:Wf t):yO (t.addParam imp n):=by
 unfold T.addParam;cases (t.get n).co with
 |some _=>exact trivial
 |none=>
  cases (t.sym n imp).use with
  |var=>
   cases (t.sym n imp).fV with
   |no=>
    cases gJ (t.sym n imp).kl with
    |none=>exact trivial
    |some v=>exact GU (eH h n _) n _
   |_=>exact trivial
  |_=>exact trivial
theorem kN{o:Option T}{f:T->Option T}(h:yO o)(k:∀{t},Wf t->yO (f t)):yO (match(generalizing:=false) o with|none=>none|some t=>f t):=by
 cases o with
 |none=>exact trivial
 |some t=>exact k h
theorem AB{c:Cm}{d:Dm}(h:Wf t):yO (t.addCom imp n c d):=by
 refine kN (jR h) (f:=λt=>match(t.sym n imp).fV with
  | .no=>match(t.sym n imp).use with
   | .var=>some (t.aY n {t.sym n imp with fV:=c})
   | .array=>some (t.aY n {t.sym n imp with fV:=c})
   |_=>none
  |_=>none) λ{t} h=>?_
 cases (t.sym n imp).fV with
 |no=>
  cases (t.sym n imp).use with
  |var=>exact eH h n _
  |array=>exact eH h n _
  |_=>exact trivial
 |_=>exact trivial
theorem AD(h:Wf t):yO (t.qY imp n):=by
 unfold T.qY;cases (t.sym n imp).use with
 |var=>
  cases (t.sym n imp).fV with
  |no=>exact GS (eH h n _) n
  |_=>exact trivial
 |_=>exact trivial
theorem yP(h:Wf t):yO (t.m8 imp n):=by
 unfold T.m8;cases (t.sym n imp).use with
 |var=>
  cases (t.sym n imp).fV with
  |no=>
   cases n.isI with
   |true=>exact eH h n _
   |false=>exact trivial
  |_=>exact trivial
 |_=>exact trivial
theorem yQ{sp:Sp}(h:Wf t):yO (t.addSpec imp sp):=by
 cases sp with
 |type n k d=>exact kN (nu h) (f:=λt=>t.c7 imp n d) λh=>jR h
 |dimension n=>exact jR (imp:=imp) (n:=n) (d:=.d3) h
 |common n c d=>exact AB h
 |param n=>exact nD h
 |external n=>exact AD h
 |aB n=>exact yP h
 |save n=>exact eH h n _
theorem DH(h:Wf t):yO (t.addSt imp n):=by
 unfold T.addSt;cases (t.sym n imp).use with
 |var=>
  cases (t.sym n imp).bF with
  |false=>
   cases (t.sym n imp).fV with
   |no=>exact eH (ez (ez h _ _) _ _) _ _
   |_=>exact trivial
  |true=>exact trivial
 |_=>exact trivial
theorem wA{o:Option T}(h:yO o)(e:o=some t'):Wf t':=by rw[e]at h;exact h
theorem AE{ps:List Sp}(h:Wf t):yO (gK imp t ps):=by
 induction ps generalizing t with
 |nil=>exact h
 |cons s ps ih=>exact kN (yQ h) (f:=λt=>gK imp t ps) ih
theorem DI{ps:List Sp}(h:Wf t)(e:gK imp t ps=some t'):Wf t':=wA (AE h) e
theorem yR{x:List Sp×Nat}{y:List Sp×Nat}(h:Wf t)(e:some (t,x)=some (t',y)):Wf t':=by cases e;exact h
theorem KW{ps:List Sp}{k:Nat}{r:List Sp}{k':Nat}(h:Wf t)(e:TG imp t ps k=some (t',r,k')):Wf t':=by
 induction ps generalizing t k with
 |nil=>exact yR h e
 |cons sp ps ih=>
  cases sp with
  |param n=>
   have e:(match t.addParam imp n with|none=>none|some t=>TG imp t ps (k+1))=some (t',r,k'):=e
   cases e1:t.addParam imp n with
   |none=>rw[e1]at e;exact aL e
   |some t1=>rw[e1]at e;exact ih (wA (nD h) e1) e
  |_=>exact yR h e
theorem BV{L:List Nm}(h:Wf t):Wf (t.mark imp L):=by
 induction L generalizing t with
 |nil=>exact h
 |cons n L ih=>exact ih (eH h n _)
theorem GV{kd:Kd}{d:Dl}{r:Option Kl}(h:Wf t)(e:t.heads imp kd d r=some t'):Wf t':=by
 refine wA (?_:yO (t.heads imp kd d r)) e;cases kd with
 |func=>
  refine kN (?_:yO (t.rF imp r)) (f:=λt=>match(((t.need .b imp).mark imp d.l).sym .b imp).bF with
   |true=>none
   |false=>some ((t.need .b imp).mark imp d.l)) λ{t} h=>?_
  ·cases r with
   |none=>exact h
   |some k=>exact nu h
  ·cases (((t.need .b imp).mark imp d.l).sym .b imp).bF with
   |true=>exact trivial
   |false=>exact BV (ez h _ _)
 |_=>exact BV h
theorem DJ{o:Option Nm}(h:Wf t)(e:kK imp t o=some t'):Wf t':=by
 refine wA (?_:yO (kK imp t o)) e;cases o with
 |none=>exact h
 |some n=>exact kN (DH h) (f:=λt=>some (t.need .j imp)) λh=>ez h _ _
theorem KX{s:St}(h:Wf t):Wf (t.note imp s):=by
 cases s with
 |assign n=>exact yM (ez (ez h _ _) _ _) _ (nk _ _ _)
 |pP n=>exact ez (yN (ez (ez h _ _) _ _) _ (nk _ _ _)) _ _
 |call n=>exact yN (ez h _ _) _ (nk _ _ _)
 |read n=>exact ez (yM (ez (ez h _ _) _ _) _ (nk _ _ _)) _ _
theorem GW{L:List St}(h:Wf t):Wf (gf imp t L):=by
 induction L generalizing t with
 |nil=>exact h
 |cons s L ih=>exact ih (KX h)
end
noncomputable def OT:NS:=⟨none,false,false,false,false,none⟩
noncomputable def T0:T:=⟨OT,OT,OT,OT,OT,OT,[],[],[],[],[],[]⟩
theorem GX(m:Nm):vw T0 m=(false,false,false):=by cases m<;>rfl
theorem GY{p:Nm->Bool}(h:∀m,p m=false):Lst p []:=⟨[],rfl,.nil,λn=>⟨λz=>(nomatch z),λz=>(nomatch (h n).symm.trans z)⟩⟩
theorem Rc:Wf T0:=⟨GY λm=>congrArg (·.1) (GX m),GY λm=>congrArg (·.2.1) (GX m),GY λm=>congrArg (·.2.2) (GX m),λm h=>(nomatch (congrArg (·.2.1) (GX m)).symm.trans h),λm h=>(nomatch (congrArg (·.2.2) (GX m)).symm.trans h)⟩
noncomputable def GZ(h:Hd)(left:Nat):G:=⟨[(0,h.c0),(1,h.c1),(2,h.c2),(3,h.c3),(4,h.c4),(5,h.c5),(100,h.f0),(101,h.f1),(102,h.f2),(103,h.f3),(104,h.f4),(105,h.f5),(12,h.c12),(13,h.RA),(14,h.I2),(15,h.EF),
 (16,BO),(17,.free),(18,.free),(19,.free),(20,.free),(21,.free),(22,.free),(23,.free),(24,.free),(25,.free),(26,.free),(30,.free),(31,.free),(32,.free),(33,.free),(34,.free),(35,.free)],left,[]⟩
structure Raw where
 kd:Kd
 d:Dl
 r:Option Kl
 imp:Bool
 sp:List (V×Sp)
 stf:Option Nm
 bd:List (V×St×V)
noncomputable def Raw.ok(w:Raw):Bool:=RJ w.kd w.d w.r&&w.sp.all (λp=>p.2.ok)
noncomputable def Raw.hd(w:Raw)(h:Hd):Hd:={h with c1:=aC w.kd w.d w.r,c2:=.list (iS w.imp w.sp),c3:=.list (lR w.stf),c4:=.list (Tg w.bd)}
noncomputable def Raw.qg(w:Raw):List Sp:=w.sp.map λq:V×Sp=>q.2
noncomputable def Raw.sts(w:Raw):List St:=w.bd.map λq:V×St×V=>q.2.1
noncomputable def SJ(w:Raw):Option T:=match TG w.imp T0 w.qg (gB w.imp)with
 |none=>none
 |some (t,rest,_)=>match t.heads w.imp w.kd w.d w.r with
  |none=>none
  |some t=>match gK w.imp t rest with
   |none=>none
   |some t=>match kK w.imp t w.stf with
    |none=>none
    |some t=>some (gf w.imp t w.sts)
theorem DK(h:Hd)(w:Raw)(hw:w.ok=true)(t:T)(left n:Nat){P:V->G->Prop}{Ψ:Prop}(hP:∀t',t.heads w.imp w.kd w.d w.r=some t'->P w.kd.res (bE (w.hd h) w.imp t' left []))(hΨ:t.heads w.imp w.kd w.d w.r=none->Ψ):
  ((fs aA (n+90)).c (bE (w.hd h) w.imp t left []) (.fn 733) [bg,.inst 793 1]).Al P Ψ:=by
 have fin:((fs aA (n+90)).c (bE (w.hd h) w.imp t left []) (.fn 733) [bg,.inst 793 1])=TX (w.hd h) w.imp left [] w.kd.res (t.heads w.imp w.kd w.d w.r):=
  GI {h with c2:=.list (iS w.imp w.sp),c3:=.list (lR w.stf),c4:=.list (Tg w.bd)} left n t w.imp (Bool.and_eq_true_iff.mp hw).1
 rw[fin];cases e:t.heads w.imp w.kd w.d w.r with
 |none=>exact m9 (hΨ e)
 |some t'=>exact bu (hP t' e)
theorem oM{C:Cfg}{n:Nat}{l:Loc}{g:G}{a lo:ME}{P:V->G->Prop}{Ψ:Prop}(q:((fs C n).e l g a).Al (λx g=>((fs C n).e l g lo).Al (λy g=>∃v,slice g x y .none=some v/\P v g) Ψ) Ψ):((fs C (n+1)).e l g (.slice a (some lo) none)).Al P Ψ:=by refine R.Al.bind.mpr (q.mono (λx g p=>R.Al.bind.mpr (p.mono (λy g p=>?_) id)) id);obtain⟨v,hv,p⟩:=p;refine R.Al.bind.mpr (bu ?_);rw[hv];exact bu p
theorem yS{g:G}{i k:Nat}{L:List V}(hg:g.get i=.list L):slice g (.ref i) (.int (k:Nat)) .none=some (.lst (L.drop k)):=by
 show(SY g (.ref i)).bind (λl=>(bound 0 (.int (k:Nat))).bind λx=>(bound l.length .none).map λy=>V.lst (cut l x y))=_;have h1:SY g (.ref i)=some L:=by
  show(match g.get i with| .list l=>some l|_=>none)=_
  rw[hg]
 have h2:bound 0 (.int (k:Nat))=some k:=by
  show(match decide ((0:Int)<=(k:Nat))with|true=>some ((k:Nat):Int).toNat|false=>none)=_
  rw[decide_eq_true (Int.natCast_nonneg k)];rfl
 rw[h1,h2];show some (V.lst (cut L k L.length))=_;unfold cut;rw[List.take_length]
theorem DL(imp:Bool)(ps:List (V×Sp))(k:Nat)(hk:gB imp<=k):(iS imp ps).drop k=eZ (ps.drop (k - gB imp)):=by
 cases imp with
 |false=>show(ps.map _).drop k=(ps.drop (k - 0)).map _;rw[Nat.sub_zero,List.map_drop]
 |true=>have hk:1<=k:=hk;obtain⟨j,rfl⟩:∃j,k=j+1:=Nat.exists_eq_add_of_le' hk;show(ps.map _).drop j=(ps.drop (j+1 - 1)).map _;rw[Nat.add_sub_cancel,List.map_drop]
abbrev gM:Nat:=7496055
noncomputable def NQ:Loc:=[(7496055,.inst 793 1),(32635403070180027165612140899,.fn 868),(119200062993523,.inst 772 16)]
theorem AF(h:Hd)(w:Raw)(hw:w.ok=true)(left n m:Nat)(hm:w.sp.length<=m){P:V->G->Prop}{Ψ:Prop}
  (hP:∀t L1 L2 L3 t' left',SJ w=some t->Wf t->t.kM=L1.map Nm.str->t.kh=L2.map Nm.str->t.so=L3.map Nm.str->S8 w.kd t L1 L2 L3=some t'->left<=left'->P bg (bE (w.hd h) w.imp t' left' []))
  (hΨ:(SJ w=none\/∃t L1 L2 L3,SJ w=some t/\Wf t/\t.kM=L1.map Nm.str/\t.kh=L2.map Nm.str/\t.so=L3.map Nm.str/\S8 w.kd t L1 L2 L3=none)->Ψ):
  ((fs aA (n+m+140)).c (GZ (w.hd h) (left+2 * w.sp.length)) (.fn 747) [.inst 793 1,.fn 868,.inst 772 16]).Al P Ψ:=by
 refine dU (n:=n+m+139) (l:=NQ) rfl rfl rfl ?_;refine aZ (n:=n+m+138) (ao (v:=bg) (g:=bE (w.hd h) false T0 (left+2 * w.sp.length) []) (by kernel_rfl) ?_)
 let l1:Loc:=bY NQ 499850046565 bg
 have b0:aT l1 aR=some bg:=rfl;have b1:aT l1 gM=some (.inst 793 1):=rfl;refine aZ (n:=n+m+138) (SM (y:=(fs aA (n+m+137)).c (bE (w.hd h) false T0 (left+2 * w.sp.length) []) (.fn 726) [bg,.ref 2]) (by kernel_rfl) ?_)
 rw[show n+m+137=(n+13)+m+124 from congrArg (·+124) (Nat.add_right_comm n 13 m).symm]
 refine wk (w.hd h) w.imp T0 (left+2 * w.sp.length) (n+13) m w.sp hm (λt1 k e1 hk1 hk2=>?_) (λe=>hΨ (.inl ?_))
 rotate_left
 ·unfold SJ;unfold Raw.qg;rw[e]
 have c0:aT (bY l1 dc (.int (k:Nat))) aR=some bg:=rfl;have c1:aT (bY l1 dc (.int (k:Nat))) gM=some (.inst 793 1):=rfl;have c2:aT (bY l1 dc (.int (k:Nat))) dc=some (.int (k:Nat)):=rfl;refine aZ (n:=n+m+138) (aG (aq c0 (aq c1 (dO _))) (SM (y:=(fs aA (n+m+137)).c (bE (w.hd h) w.imp t1 (left+2 * w.sp.length) []) (.fn 733) [bg,.inst 793 1]) (by kernel_rfl) ?_))
 rw[show n+m+137=(n+m+47)+90 from rfl];have hg:SJ w=match t1.heads w.imp w.kd w.d w.r with
  |none=>none
  |some t=>match gK w.imp t (w.qg.drop (k - gB w.imp))with
   |none=>none
   |some t=>match kK w.imp t w.stf with
    |none=>none
    |some t=>some (gf w.imp t w.sts):=by
  unfold SJ;unfold Raw.qg;rw[e1];all_goals rfl
 refine DK h w hw t1 _ _ (λt2 e2=>?_) (λe=>hΨ (.inl (by rw[hg,e])))
 rw[e2]at hg
 let l3:Loc:=bY (bY l1 dc (.int (k:Nat))) bZ w.kd.res
 have d0:aT l3 aR=some bg:=rfl;have d1:aT l3 gM=some (.inst 793 1):=rfl;have d2:aT l3 dc=some (.int (k:Nat)):=rfl;have d3:aT l3 bZ=some w.kd.res:=rfl;have ok2:∀p:V×Sp,p∈w.sp.drop (k - gB w.imp)->p.2.ok=true:=λp hp=>List.all_eq_true.mp (Bool.and_eq_true_iff.mp hw).2 p (List.mem_of_mem_drop hp);have hlen:(w.sp.drop (k - gB w.imp)).length<=w.sp.length:=by rw[List.length_drop];exact Nat.sub_le ..
 refine gc (n:=n+m+138) (oM (n:=n+m+137) (aG (aq d1 (dO _)) (ao (v:=.ref 2) (g:=bE (w.hd h) w.imp t2 (left+2 * w.sp.length) []) (by kernel_rfl) (aD (n:=n+m+136) d2 ⟨_,yS (L:=iS w.imp w.sp) rfl,⟨_,rfl,?_⟩⟩))))
 rw[DL _ _ _ hk1];show R.Al (loop (fs aA (n+m+138)) _ _ l3 (bE (w.hd h) w.imp t2 (left+2 * w.sp.length) []) _) _ _;rw[show left+2 * w.sp.length=(left+2 * (w.sp.length - (w.sp.drop (k - gB w.imp)).length))+2 * (w.sp.drop (k - gB w.imp)).length from QJ hlen,show n+m+138=(n+m+36)+102 from rfl];have hmap:(w.sp.drop (k - gB w.imp)).map (λq:V×Sp=>q.2)=w.qg.drop (k - gB w.imp):=by unfold Raw.qg;rw[List.map_drop]
 refine rD (w.hd h) w.imp (n+m+36) rfl (w.sp.drop (k - gB w.imp)) t2 _ l3 ok2 d0 (λt3 left3 l4 e3 hl3 hk4=>?_) (λe=>hΨ (.inl (by rw[hg];rw[hmap]at e;dsimp only;rw[e])))
 rw[hmap]at e3;dsimp only at hg;rw[e3]at hg;have f0:aT l4 aR=some bg:=(hk4 aR (by decide) (by decide)).trans d0
 have f1:aT l4 gM=some (.inst 793 1):=(hk4 gM (by decide) (by decide)).trans d1
 have f3:aT l4 bZ=some w.kd.res:=(hk4 bZ (by decide) (by decide)).trans d3
 have wf3:Wf t3:=DI (GV (KW Rc e1) e2) e3;refine IF (n:=n+m+139) (gc (n:=n+m+138) (aG (aq f1 (dO _)) (ao (v:=.ref 3) (g:=bE (w.hd h) w.imp t3 left3 []) (by kernel_rfl) ⟨lR w.stf,by kernel_rfl,?_⟩)))
 show R.Al (loop (fs aA (n+m+138)) _ _ l4 (bE (w.hd h) w.imp t3 left3 [3]) _) _ _;rw[show n+m+138=(n+m+56)+82 from rfl];refine GK (w.hd h) w.imp t3 left3 (n+m+56) w.stf l4 f0 (λt4 l5 e4 hk5=>?_) (λe=>hΨ (.inl (by rw[hg];dsimp only;rw[e])))
 dsimp only at hg;rw[e4]at hg;have wf4:Wf t4:=DJ wf3 e4;have g0:aT l5 aR=some bg:=(hk5 aR (by decide) (by decide) (by decide) (by decide)).trans f0
 have g1:aT l5 gM=some (.inst 793 1):=(hk5 gM (by decide) (by decide) (by decide) (by decide)).trans f1
 have g3:aT l5 bZ=some w.kd.res:=(hk5 bZ (by decide) (by decide) (by decide) (by decide)).trans f3
 refine IF (n:=n+m+139) (gc (n:=n+m+138) (aG (aq g1 (dO _)) (ao (v:=.ref 4) (g:=bE (w.hd h) w.imp t4 left3 []) (by kernel_rfl) ⟨Tg w.bd,by kernel_rfl,?_⟩)))
 show R.Al (loop (fs aA (n+m+138)) _ _ l5 (bE (w.hd h) w.imp t4 left3 [4]) _) _ _;rw[show n+m+138=(n+m+56)+82 from rfl];refine uE (w.hd h) w.imp left3 (n+m+56) w.bd t4 l5 g0 λl6 hk6=>?_;have hgt:SJ w=some (gf w.imp t4 w.sts):=hg;have wf5:Wf (gf w.imp t4 w.sts):=GW wf4;have i0:aT l6 aR=some bg:=(hk6 aR (by decide) (by decide) (by decide)).trans g0
 have i3:aT l6 bZ=some w.kd.res:=(hk6 bZ (by decide) (by decide) (by decide)).trans g3
 show Tc aA (n+m+139) _ _ _ (.next l6) (bE (w.hd h) w.imp (gf w.imp t4 w.sts) left3 []);obtain⟨L3,s1,s2,s3⟩:=wf5.so;obtain⟨L1,a1,a2,a3⟩:=wf5.kM;obtain⟨L2,p1,p2,p3⟩:=wf5.kh;refine IF (n:=n+m+139) (bJ (n:=n+m+138) (aG (aq i0 (dO _)) (SM (y:=(fs aA (n+m+137)).c (bE (w.hd h) w.imp (gf w.imp t4 w.sts) left3 []) (.fn 719) [bg]) (by kernel_rfl) ?_)))
 rw[show n+m+137=(n+m+95)+42 from rfl];refine tB (w.hd h) w.imp _ left3 _ L3 s1 (λnm hn=>(s3 nm).mp hn) ?_;refine bJ (n:=n+m+138) (aG (aq i0 (aq i3 (dO _))) (SM (y:=(fs aA (n+m+137)).c (bE (w.hd h) w.imp (gf w.imp t4 w.sts) left3 []) (.fn 740) [bg,w.kd.res]) (by kernel_rfl) ?_))
 rw[show n+m+137=(n+m+52)+85 from rfl];refine AA (w.hd h) w.imp _ left3 _ w.kd L1 L2 L3 a1 p1 s1 (λnm hn=>wf5.ch nm ((a3 nm).mp hn)) (λnm hn=>wf5.ah nm ((p3 nm).mp hn)) (λnm hn=>(s3 nm).mp hn) (λt6 e6=>?_) (λe=>hΨ (.inr ⟨_,L1,L2,L3,hgt,wf5,a1,p1,s1,e⟩));exact bW (n:=n+m+138) (aG (aq i0 (dO _)) (ao (v:=bg) (g:=bE (w.hd h) w.imp t6 left3 []) (by kernel_rfl) (hP _ L1 L2 L3 t6 left3 hgt wf5 a1 p1 s1 e6 (Bf hl3))))
theorem G0{C:Cfg}{n:Nat}{l:Loc}{g:G}{a:ME}{s:S}{P:V->G->Prop}{Ψ:Prop}(q:((fs C n).e l g a).Al (λv g=>∃c d k tab ord w,v=.inst c d/\aT C.ct c=some k/\g.get d=.dict tab ord/\S3 tab s=some w/\P w g) Ψ):((fs C (n+1)).e l g (.attr a s)).Al P Ψ:=by
 refine R.Al.bind.mpr (q.mono (λv g p=>?_) id);obtain⟨c,d,k,tab,ord,w,rfl,h1,h2,h3,p⟩:=p;show(match aT C.ct c,g.get d with
  |some _,.dict tab _=>opt (S3 tab s) g
  |_,_=>.st:R V).Al P Ψ
 rw[h1,h2];dsimp only;rw[h3];exact bu p
theorem DM(h:Hd)(w:Raw)(hw:w.ok=true)(left n m:Nat)(hm:w.sp.length<=m){P:V->G->Prop}{Ψ:Prop}
  (hP:∀t L1 L2 L3 t' left',SJ w=some t->Wf t->t.kM=L1.map Nm.str->t.kh=L2.map Nm.str->t.so=L3.map Nm.str->S8 w.kd t L1 L2 L3=some t'->left<=left'->P (.ref 21) (bE (w.hd h) w.imp t' left' []))
  (hΨ:(SJ w=none\/∃t L1 L2 L3,SJ w=some t/\Wf t/\t.kM=L1.map Nm.str/\t.kh=L2.map Nm.str/\t.so=L3.map Nm.str/\S8 w.kd t L1 L2 L3=none)->Ψ):
  ((fs aA (n+m+144)).c (GZ (w.hd h) (left+2 * w.sp.length)) (.fn 754) [.inst 793 1,.fn 868,.inst 772 16]).Al P Ψ:=by
 refine dU (n:=n+m+143) (l:=NQ) rfl rfl rfl ?_;refine bW (n:=n+m+142) (G0 (n:=n+m+141) ?_);refine SM (y:=(fs aA (n+0+m+140)).c (GZ (w.hd h) (left+2 * w.sp.length)) (.fn 747) [.inst 793 1,.fn 868,.inst 772 16]) (by kernel_rfl) ?_
 refine AF h w hw left (n+0) m hm (λt L1 L2 L3 t' left' k1 k2 k3 k4 k5 k6 k7=>?_) hΨ;exact⟨_,_,_,_,_,_,rfl,rfl,rfl,rfl,hP t L1 L2 L3 t' left' k1 k2 k3 k4 k5 k6 k7⟩
structure LN where
 f:List V
 ty:Option Kl
 dm:Option Dm
 cm:Option Cm
structure LS where
 a:LN
 b:LN
 c:LN
 i:LN
 s:LN
 j:LN
 od:List S
noncomputable def LS.get(t:LS):Nm->LN
 | .a=>t.a| .b=>t.b| .c=>t.c| .i=>t.i| .s=>t.s| .j=>t.j
noncomputable def LS.set(t:LS)(n:Nm)(x:LN):LS:=match n with
 | .a=>{t with a:=x}| .b=>{t with b:=x}| .c=>{t with c:=x}| .i=>{t with i:=x}| .s=>{t with s:=x}| .j=>{t with j:=x}
noncomputable def LS.app(t:LS)(n:Nm)(w:S):LS:=t.set n {t.get n with f:=(t.get n).f++[.str w]}
noncomputable def LS.uF(t:LS)(n:Nm)(k:Kl):LS:={t.set n {t.get n with ty:=some k}with od:=qX (t.get n).ty.isSome n.str t.od}
noncomputable def LS.pB(t:LS)(n:Nm)(d:Dm):LS:={t.set n {t.get n with dm:=some d}with od:=qX (t.get n).dm.isSome (n.str++[40,41]) t.od}
noncomputable def LS.uG(t:LS)(n:Nm)(c:Cm):LS:={t.set n {t.get n with cm:=some c}with od:=qX (t.get n).cm.isSome (n.str++[47]) t.od}
noncomputable def Ss:Option Kl->Option V
 |none=>none
 |some k=>some (.tup [k.kind,k.told])
noncomputable def Su:Option Dm->Option V
 |none=>none
 |some d=>some d.v
noncomputable def Sv:Option Cm->Option V
 |none=>none
 |some c=>some c.v
noncomputable def AG:S:=iY
noncomputable def jY:S:=bL
noncomputable def jS:S:=bf
noncomputable def g5:S:=bU
noncomputable def lK:S:=bw
noncomputable def gO:S:=cR
noncomputable def wB:S:=aW
noncomputable def d7:S:=cS
noncomputable def jZ(n:Nm)(x:LN):List (S×Option V):=[(n.str,Ss x.ty),(n.str++[40,41],Su x.dm),(n.str++[47],Sv x.cm)]
noncomputable def BW(imp:Bool):By:=match imp with
 |true=>.dict [([67],some (.tup [.int 5,.tup [.str gY,.int 3]]))] [[67]]
 |false=>.dict [([67],none)] []
structure Hl where
 c0:By
 c1:By
 c2:By
 c3:By
 c4:By
 I2:By
 EF:By
noncomputable def iE:By:=.dict [(nA,some (.ref 100)),(nB,some (.ref 101)),(nC,some (.ref 102)),(nI,some (.ref 103)),(yC,some (.ref 104)),(nJ,some (.ref 105))] [nA,nB,nC,nI,yC,nJ]
noncomputable def aH(h:Hl)(imp:Bool)(s:LS)(left:Nat)(lk:List Nat):G:=⟨[(0,h.c0),(1,h.c1),(2,h.c2),(3,h.c3),(4,h.c4),(5,iE),(100,.list s.a.f),(101,.list s.b.f),(102,.list s.c.f),(103,.list s.i.f),(104,.list s.s.f),(105,.list s.j.f),
 (12,.dict (jZ .a s.a++jZ .b s.b++jZ .c s.c++jZ .i s.i++jZ .s s.s++jZ .j s.j) s.od),(13,BW imp),(14,h.I2),(15,h.EF),
 (16,.free),(17,.free),(18,.free),(19,.free),(20,.free),(21,.free),(22,.free),(23,.free),(24,.free),(25,.free),(26,.free),(30,.free),(31,.free),(32,.free),(33,.free),(34,.free),(35,.free)],left,lk⟩
noncomputable def LS.spec(s:LS):Sp->LS
 | .type n k d=>match d with
  | .d0=>(s.app n jX).uF n k
  |d=>(((s.app n jX).uF n k).pB n d).app n jY
 | .dimension n=>(s.app n jY).pB n .d3
 | .common n c d=>match d with
  | .d0=>(s.app n ir).uG n c
  |d=>(((s.app n ir).pB n d).app n jY).uG n c
 | .param n=>s.app n bG
 | .external n=>s.app n cC
 | .aB n=>s.app n bQ
 | .save n=>s.app n pq
noncomputable def LS.stmt(s:LS):St->LS
 | .assign n=>(s.app n g5).app .a AG
 | .pP n=>((s.app n AG).app .j lK).app .i AG
 | .call n=>s.app n lK
 | .read n=>(s.app n g5).app .i AG
theorem G1(t:LS)(n:Nm):t.set n (t.get n)=t:=by cases n<;>rfl
noncomputable def iU.ln{β:Type}(p:iU (Option Kl->Option Dm->Option Cm->List V->β)):iU (LN->β):=⟨p.δ,λf=>p.s λty dm cm fa=>f ⟨fa,ty,dm,cm⟩,λf=>p.s2 λty dm cm fa=>f ⟨fa,ty,dm,cm⟩,λh=>funext λx=>congrFun (congrFun (congrFun (congrFun (p.i h) x.ty) x.dm) x.cm) x.f⟩
theorem yT{β:Type}{L R:LS->Nm->β}(p:iU (LN->List β))(h:∀s:LS,(p.s λx=>kI λnm=>L (s.set nm x) nm)=p.s2 λx=>kJ λnm=>R (s.set nm x) nm)(s:LS)(nm:Nm):L s nm=R s nm:=by have e:=jh (congrFun (p.i (h s)) (s.get nm)) nm;rw[G1]at e;exact e
section
variable(h:Hl)(imp:Bool)(left n:Nat)
theorem DN(k:Kl):∀(s:LS)(nm:Nm),(fs aA (n+60)).c (aH h imp s (left+1) [2]) (.fn 903) [(Sp.type nm k .d0).v,.ref 5,.ref 12]=.ok .none (aH h imp (s.spec (.type nm k .d0)) left [2]):=
 yT (.ln (.o .id .id)) λs=>by kernel_rfl
theorem AH(k:Kl):∀(s:LS)(nm:Nm),(fs aA (n+60)).c (aH h imp s (left+2) [2]) (.fn 903) [(Sp.type nm k .d1).v,.ref 5,.ref 12]=.ok .none (aH h imp (s.spec (.type nm k .d1)) left [2]):=
 yT (.ln (.o (.o .id .id) (.f (.o .id .id)))) λs=>by kernel_rfl
theorem AI(k:Kl):∀(s:LS)(nm:Nm),(fs aA (n+60)).c (aH h imp s (left+2) [2]) (.fn 903) [(Sp.type nm k .d2).v,.ref 5,.ref 12]=.ok .none (aH h imp (s.spec (.type nm k .d2)) left [2]):=
 yT (.ln (.o (.o .id .id) (.f (.o .id .id)))) λs=>by kernel_rfl
theorem AJ(k:Kl):∀(s:LS)(nm:Nm),(fs aA (n+60)).c (aH h imp s (left+2) [2]) (.fn 903) [(Sp.type nm k .d3).v,.ref 5,.ref 12]=.ok .none (aH h imp (s.spec (.type nm k .d3)) left [2]):=
 yT (.ln (.o (.o .id .id) (.f (.o .id .id)))) λs=>by kernel_rfl
theorem KY:∀(s:LS)(nm:Nm),(fs aA (n+60)).c (aH h imp s (left+1) [2]) (.fn 903) [(Sp.dimension nm).v,.ref 5,.ref 12]=.ok .none (aH h imp (s.spec (.dimension nm)) left [2]):=
 yT (.ln (.f (.o .id .id))) λs=>by kernel_rfl
theorem G2(c:Cm):∀(s:LS)(nm:Nm),(fs aA (n+60)).c (aH h imp s (left+1) [2]) (.fn 903) [(Sp.common nm c .d0).v,.ref 5,.ref 12]=.ok .none (aH h imp (s.spec (.common nm c .d0)) left [2]):=
 yT (.ln (.f2 (.o .id .id))) λs=>by kernel_rfl
theorem DP(c:Cm):∀(s:LS)(nm:Nm),(fs aA (n+60)).c (aH h imp s (left+2) [2]) (.fn 903) [(Sp.common nm c .d1).v,.ref 5,.ref 12]=.ok .none (aH h imp (s.spec (.common nm c .d1)) left [2]):=
 yT (.ln (.f (.o (.o .id .id) (.f (.o .id .id))))) λs=>by kernel_rfl
theorem DQ(c:Cm):∀(s:LS)(nm:Nm),(fs aA (n+60)).c (aH h imp s (left+2) [2]) (.fn 903) [(Sp.common nm c .d2).v,.ref 5,.ref 12]=.ok .none (aH h imp (s.spec (.common nm c .d2)) left [2]):=
 yT (.ln (.f (.o (.o .id .id) (.f (.o .id .id))))) λs=>by kernel_rfl
theorem DR(c:Cm):∀(s:LS)(nm:Nm),(fs aA (n+60)).c (aH h imp s (left+2) [2]) (.fn 903) [(Sp.common nm c .d3).v,.ref 5,.ref 12]=.ok .none (aH h imp (s.spec (.common nm c .d3)) left [2]):=
 yT (.ln (.f (.o (.o .id .id) (.f (.o .id .id))))) λs=>by kernel_rfl
theorem AK:∀(s:LS)(nm:Nm),(fs aA (n+60)).c (aH h imp s (left+1) [2]) (.fn 903) [(Sp.param nm).v,.ref 5,.ref 12]=.ok .none (aH h imp (s.spec (.param nm)) left [2]):=
 yT .id λs=>by kernel_rfl
theorem tC:∀(s:LS)(nm:Nm),(fs aA (n+60)).c (aH h imp s (left+1) [2]) (.fn 903) [(Sp.external nm).v,.ref 5,.ref 12]=.ok .none (aH h imp (s.spec (.external nm)) left [2]):=
 yT .id λs=>by kernel_rfl
theorem rI:∀(s:LS)(nm:Nm),(fs aA (n+60)).c (aH h imp s (left+1) [2]) (.fn 903) [(Sp.aB nm).v,.ref 5,.ref 12]=.ok .none (aH h imp (s.spec (.aB nm)) left [2]):=
 yT .id λs=>by kernel_rfl
theorem DS:∀(s:LS)(nm:Nm),(fs aA (n+60)).c (aH h imp s (left+1) [2]) (.fn 903) [(Sp.save nm).v,.ref 5,.ref 12]=.ok .none (aH h imp (s.spec (.save nm)) left [2]):=
 yT .id λs=>by kernel_rfl
theorem wC:∀(s:LS)(nm:Nm),(fs aA (n+60)).c (aH h imp s (left+2) [4]) (.fn 896) [(St.assign nm).v,.ref 5]=.ok .none (aH h imp (s.stmt (.assign nm)) left [4]):=
 yT .id λs=>by kernel_rfl
theorem DT:∀(s:LS)(nm:Nm),(fs aA (n+60)).c (aH h imp s (left+3) [4]) (.fn 896) [(St.pP nm).v,.ref 5]=.ok .none (aH h imp (s.stmt (.pP nm)) left [4]):=
 yT .id λs=>by kernel_rfl
theorem AL:∀(s:LS)(nm:Nm),(fs aA (n+60)).c (aH h imp s (left+1) [4]) (.fn 896) [(St.call nm).v,.ref 5]=.ok .none (aH h imp (s.stmt (.call nm)) left [4]):=
 yT .id λs=>by kernel_rfl
theorem AM:∀(s:LS)(nm:Nm),(fs aA (n+60)).c (aH h imp s (left+2) [4]) (.fn 896) [(St.read nm).v,.ref 5]=.ok .none (aH h imp (s.stmt (.read nm)) left [4]):=
 yT .id λs=>by kernel_rfl
end
theorem NR{α:Type}{Φ:α->G->Prop}{Ψ:Prop}{k:Nat}{c:Nat->R α}(h:∀r,r < k->(c r).Al Φ Ψ):(R.ask k c).Al Φ Ψ:=⟨λr hr=>(h r hr).out⟩
abbrev gP:Nat:=7365998
abbrev pC(k:Int):ME:=.call (.glob 1760250341482835370359) [.loc 7365998,.int k]
noncomputable def Gp(hp:List (Nat×By))(left:Nat):G:=⟨(0,.pen)::hp,left,[]⟩
section
variable{n:Nat}{l:Loc}{hp:List (Nat×By)}{left:Nat}{P:V->G->Prop}{Ψ:Prop}
theorem dj(hl:aT l gP=some (.ref 0)){k:Int}{m:Nat}(h:(fs aA (n+4)).e [(gP,.ref 0)] (Gp hp left) (pC k)=.ask m λr=>.ok (.int (r:Nat)) (Gp hp left))(q:∀r,r < m->P (.int (r:Nat)) (Gp hp left)):((fs aA (n+4)).e l (Gp hp left) (pC k)).Al P Ψ:=
 aG (aq hl (dO _)) (SM h (NR λr hr=>bu (q r hr)))
theorem Mw:(fs aA (n+4)).e [(gP,.ref 0)] (Gp hp left) (pC 2)=.ask 2 λr=>.ok (.int (r:Nat)) (Gp hp left):=by kernel_rfl
theorem G3:(fs aA (n+4)).e [(gP,.ref 0)] (Gp hp left) (pC 3)=.ask 3 λr=>.ok (.int (r:Nat)) (Gp hp left):=by kernel_rfl
theorem yU:(fs aA (n+4)).e [(gP,.ref 0)] (Gp hp left) (pC 4)=.ask 4 λr=>.ok (.int (r:Nat)) (Gp hp left):=by kernel_rfl
theorem BX:(fs aA (n+4)).e [(gP,.ref 0)] (Gp hp left) (pC 6)=.ask 6 λr=>.ok (.int (r:Nat)) (Gp hp left):=by kernel_rfl
theorem Mx:(fs aA (n+4)).e [(gP,.ref 0)] (Gp hp left) (pC 7)=.ask 7 λr=>.ok (.int (r:Nat)) (Gp hp left):=by kernel_rfl
noncomputable def Dm.drawn:Dm->Bool
 | .d3=>false|_=>true
theorem yV(q:∀d:Dm,d.drawn=true->P d.v (Gp hp left)):((fs aA (n+12)).c (Gp hp left) (.fn 875) [.ref 0]).Al P Ψ:=by
 refine dU (n:=n+11) (l:=[(7365998,.ref 0)]) rfl rfl rfl ?_;refine bW (n:=n+10) (cK (n:=n+9) (ao (v:=.lst [Dm.v .d0,Dm.v .d0,Dm.v .d1,Dm.v .d2]) (g:=Gp hp left) (by kernel_rfl) ?_))
 refine dj (n:=n+5) rfl yU λr hr=>?_;have:=Ja _ hr;rcases this with rfl|rfl|rfl|rfl
 ·exact⟨_,rfl,q .d0 rfl⟩
 ·exact⟨_,rfl,q .d0 rfl⟩
 ·exact⟨_,rfl,q .d1 rfl⟩
 ·exact⟨_,rfl,q .d2 rfl⟩
theorem iw{Φ:Fl->G->Prop}{x:R Fl}{v:V}{g:G}(h:x=.ok (.ret v) g)(p:Φ (.ret v) g):x.Al Φ Ψ:=by rw[h];exact bu p
theorem c8{f:Fs}{g:G}{Q:List V->G->Prop}(h:Q [] g):(evs f l g []).Al Q Ψ:=bu h
theorem aI{f:Fs}{g:G}{e:ME}{r:List ME}{Q:List V->G->Prop}(h:(f.e l g e).Al (λv g=>(evs f l g r).Al (λvs g=>Q (v::vs) g) Ψ) Ψ):(evs f l g (e::r)).Al Q Ψ:=
 R.Al.bind.mpr (h.mono (λv g p=>R.Al.bind.mpr (p.mono (λvs g q=>bu q) id)) id)
theorem iy{C:Cfg}{g:G}{es:List ME}(h:(evs (fs C n) l g es).Al (λvs g=>P (.tup vs) g) Ψ):((fs C (n+1)).e l g (.tup es)).Al P Ψ:=R.Al.bind.mpr (h.mono (λ_ _ p=>bu p) id)
theorem BZ{C:Cfg}{g:G}{es:List ME}(h:(evs (fs C n) l g es).Al (λvs g=>P (.lst vs) g) Ψ):((fs C (n+1)).e l g (.lst 0 es)).Al P Ψ:=R.Al.bind.mpr (h.mono (λ_ _ p=>bu p) id)
theorem wD{C:Cfg}{g:G}{c a b:ME}(h:(tst (fs C n) l g c).Al (λt g=>((fs C n).e l g (match t with|true=>a|false=>b)).Al P Ψ) Ψ):((fs C (n+1)).e l g (.ite c a b)).Al P Ψ:=
 R.Al.bind.mpr (h.mono (λt _ p=>by cases t<;>exact p) id)
noncomputable def rJ:V:=.tup [.str nA,.str nB,.str nC,.str nI,.str yC,.str nJ]
theorem oN(g:G){r:Nat}(hr:r < 6):∃nm:Nm,item g rJ (.int (r:Nat))=some (.str nm.str):=by
 have:=M4 _ hr;rcases this with rfl|rfl|rfl|rfl|rfl|rfl
 ·exact⟨.a,rfl⟩
 ·exact⟨.b,rfl⟩
 ·exact⟨.c,rfl⟩
 ·exact⟨.i,rfl⟩
 ·exact⟨.s,rfl⟩
 ·exact⟨.j,rfl⟩
abbrev Rd:Nat:=7823737
theorem yW(q:∀s:St,P s.v (Gp hp left)):((fs aA (n+22)).c (Gp hp left) (.fn 889) [.ref 0]).Al P Ψ:=by
 refine dU (n:=n+21) (l:=[(7365998,.ref 0)]) rfl rfl rfl ?_;refine aZ (n:=n+20) (dj (n:=n+16) rfl yU λw hw=>?_);refine aZ (n:=n+20) (cK (n:=n+19) (ao (v:=rJ) (g:=Gp hp left) (by kernel_rfl) (dj (n:=n+15) rfl BX λr hr=>?_)))
 obtain⟨nm,hnm⟩:=oN (Gp hp left) hr;refine⟨_,hnm,?_⟩;have:=Ja _ hw;rcases this with rfl|rfl|rfl|rfl
 ·exact iw (v:=(St.assign nm).v) (g:=Gp hp left) (by kernel_rfl) (q _)
 ·exact iw (v:=(St.pP nm).v) (g:=Gp hp left) (by kernel_rfl) (q _)
 ·exact iw (v:=(St.call nm).v) (g:=Gp hp left) (by kernel_rfl) (q _)
 ·exact iw (v:=(St.read nm).v) (g:=Gp hp left) (by kernel_rfl) (q _)
end
section
variable{n:Nat}{l:Loc}{hp:List (Nat×By)}{left:Nat}{P:V->G->Prop}{Ψ:Prop}
noncomputable def Kl.oO:Kl->Bool
 | .c3=>false|_=>true
noncomputable def Cm.drawn:Cm->Bool
 | .no=>false|_=>true
noncomputable def Sp.drawn:Sp->Bool
 | .type _ k d=>k.oO&&d.drawn
 | .common _ c d=>c.drawn&&d.drawn
 |_=>true
theorem Sp.G4{s:Sp}(h:s.drawn=true):s.ok=true:=by
 cases s with
 |type nm k d=>cases d<;>first|rfl|(cases k<;>cases h)
 |common nm c d=>cases c<;>first|rfl|(cases d<;>cases h)
 |_=>rfl
abbrev G5:Nat:=1802071652
noncomputable def My:ME:=.tup [.str dD,.loc 1802071652,.ite (.cmp 0 (.loc 1802071652) (.int 5)) (.sub (.tup [.none,.tup [.str cz,.int 2],.str [42]]) (.call (.glob 1760250341482835370359) [.loc 7365998,.int 3])) (.none),.lst 0 [.tup [.loc 1851878757,.call (.glob 1760250341482834783603) [.loc 7365998],.none]]]
theorem uH{nm:Nm}{W:V->G->Prop}(h0:aT l gP=some (.ref 0))(h1:aT l iF=some (.str nm.str))(q:∀d:Dm,d.drawn=true->W (.lst [.tup [.str nm.str,d.v,.none]]) (Gp hp left)):
  ((fs aA (n+18)).e l (Gp hp left) (.lst 0 [.tup [.loc 1851878757,.call (.glob 1760250341482834783603) [.loc 7365998],.none]])).Al W Ψ:=by
 refine BZ (n:=n+17) (aI (iy (n:=n+16) (aI (aD (n:=n+15) h1 (aI (aG (n:=n+16) (aq h0 (dO _)) (SM (y:=(fs aA (n+3+12)).c (Gp hp left) (.fn 875) [.ref 0]) (by kernel_rfl) (yV λd hd=>?_))))))))
 refine aI (ao (v:=.none) (g:=Gp hp left) (by kernel_rfl) (c8 (c8 ?_)))
 exact q d hd
theorem yX{nm:Nm}{k:Kl}(h0:aT l gP=some (.ref 0))(h1:aT l iF=some (.str nm.str))(h2:aT l G5=some k.kind){Q:V->G->Prop}
  (ht:((fs aA (n+20)).e l (Gp hp left) (.ite (.cmp 0 (.loc 1802071652) (.int 5)) (.sub (.tup [.none,.tup [.str cz,.int 2],.str [42]]) (.call (.glob 1760250341482835370359) [.loc 7365998,.int 3])) (.none))).Al (λv g=>g=Gp hp left/\∃k':Kl,k'.kind=k.kind/\k'.told=v/\k'.oO=true) Ψ)
  (q:∀(k':Kl)(d:Dm),k'.oO=true->d.drawn=true->Q (Sp.type nm k' d).v (Gp hp left)):((fs aA (n+21)).e l (Gp hp left) My).Al Q Ψ:=by
 refine iy (n:=n+20) (aI (ao (v:=.str jX) (g:=Gp hp left) (by kernel_rfl) (aI (aD (n:=n+19) h2 (aI (ht.mono (λv g p=>?_) id))))))
 obtain⟨rfl,k',e1,rfl,e3⟩:=p;refine aI (uH (n:=n+2) h0 h1 λd hd=>c8 ?_);rw[<- e1];exact q k' d e3 hd
theorem yY(q:∀s:Sp,s.drawn=true->P s.v (Gp hp left)):((fs aA (n+32)).c (Gp hp left) (.fn 882) [.ref 0]).Al P Ψ:=by
 refine dU (n:=n+31) (l:=[(7365998,.ref 0)]) rfl rfl rfl ?_;refine aZ (n:=n+30) (dj (n:=n+26) rfl Mx λw hw=>?_);refine aZ (n:=n+30) (cK (n:=n+29) (ao (v:=rJ) (g:=Gp hp left) (by kernel_rfl) (dj (n:=n+25) rfl BX λr hr=>?_)))
 obtain⟨nm,hnm⟩:=oN (Gp hp left) hr;refine⟨_,hnm,?_⟩;have:=QH _ hw;rcases this with rfl|rfl|rfl|rfl|rfl|rfl|rfl
 ·refine b8 (n:=n+30) (bh (n:=n+30) (ao (v:=.bool true) (g:=Gp hp left) (by kernel_rfl) ⟨true,rfl,?_⟩))
  refine aZ (n:=n+29) (dj (n:=n+25) rfl BX λk hk=>?_);have plain:∀(kl:Kl)(l:Loc),kl.kind=.int (k:Nat)->kl.oO=true->kl.told=.none->(∀g:G,(fs aA (n+28)).e [(G5,kl.kind)] g (.ite (.cmp 0 (.loc 1802071652) (.int 5)) (.sub (.tup [.none,.tup [.str cz,.int 2],.str [42]]) (.call (.glob 1760250341482835370359) [.loc 7365998,.int 3])) (.none))=.ok .none g)->
    aT l gP=some (.ref 0)->aT l iF=some (.str nm.str)->aT l G5=some kl.kind->((fs aA (n+29)).e l (Gp hp left) My).Al P Ψ:=by
   intro kl l e1 e2 e3 e4 h0 h1 h2;refine yX (n:=n+8) (k:=kl) h0 h1 h2 (aG (aq h2 (dO _)) (ao (e4 _) ⟨rfl,kl,rfl,e3,e2⟩)) λk' d a b=>q _ (by show(k'.oO&&d.drawn)=true;rw[a,b];rfl)
  have:=M4 _ hk;rcases this with rfl|rfl|rfl|rfl|rfl|rfl
  ·exact bW (n:=n+29) (plain .k0 _ rfl rfl rfl (λg=>by kernel_rfl) rfl rfl rfl)
  ·exact bW (n:=n+29) (plain .k1 _ rfl rfl rfl (λg=>by kernel_rfl) rfl rfl rfl)
  ·exact bW (n:=n+29) (plain .k2 _ rfl rfl rfl (λg=>by kernel_rfl) rfl rfl rfl)
  ·exact bW (n:=n+29) (plain .k3 _ rfl rfl rfl (λg=>by kernel_rfl) rfl rfl rfl)
  ·exact bW (n:=n+29) (plain .k4 _ rfl rfl rfl (λg=>by kernel_rfl) rfl rfl rfl)
  ·refine bW (n:=n+29) (yX (n:=n+8) (k:=.c1) (nm:=nm) rfl rfl rfl ?_ λk' d a b=>q _ (by show(k'.oO&&d.drawn)=true;rw[a,b];rfl))
   refine wD (n:=n+27) (bh (n:=n+27) (ao (v:=.bool true) (g:=Gp hp left) (by kernel_rfl) ⟨true,rfl,?_⟩))
   refine cK (n:=n+26) (ao (v:=.tup [.none,.tup [.str gY,.int 2],.str [42]]) (g:=Gp hp left) (by kernel_rfl) (dj (n:=n+22) rfl G3 λr hr=>?_))
   have:=M3 _ hr;rcases this with rfl|rfl|rfl
   ·exact⟨_,rfl,rfl,.c1,rfl,rfl,rfl⟩
   ·exact⟨_,rfl,rfl,.c2,rfl,rfl,rfl⟩
   ·exact⟨_,rfl,rfl,.cs,rfl,rfl,rfl⟩
 ·exact iw (v:=(Sp.dimension nm).v) (g:=Gp hp left) (by kernel_rfl) (q _ rfl)
 ·have c1:((fs aA (n+28)).e [(gP,.ref 0),(Rd,.int 2),(iF,.str nm.str)] (Gp hp left) (.sub (.tup [.str [],.str [66,76,75]]) (.call (.glob 1760250341482835370359) [.loc 7365998,.int 2]))).Al (λv g=>g=Gp hp left/\∃c:Cm,c.drawn=true/\c.v=v) Ψ:=by
   refine cK (n:=n+27) (ao (v:=.tup [.str [],.str [66,76,75]]) (g:=Gp hp left) (by kernel_rfl) (dj (n:=n+23) rfl Mw λr hr=>?_))
   have:=OZ _ hr;rcases this with rfl|rfl
   ·exact⟨_,rfl,rfl,.bl,rfl,rfl⟩
   ·exact⟨_,rfl,rfl,.blk,rfl,rfl⟩
  refine b8 (n:=n+30) (bh (n:=n+30) (ao (v:=.bool false) (g:=Gp hp left) (by kernel_rfl) ⟨false,rfl,?_⟩))
  refine all_nil (IF (n:=n+31) ?_);refine b8 (n:=n+30) (bh (n:=n+30) (ao (v:=.bool false) (g:=Gp hp left) (by kernel_rfl) ⟨false,rfl,?_⟩))
  refine all_nil (IF (n:=n+31) ?_);refine b8 (n:=n+30) (bh (n:=n+30) (ao (v:=.bool true) (g:=Gp hp left) (by kernel_rfl) ⟨true,rfl,?_⟩))
  refine bW (n:=n+29) (iy (n:=n+28) (aI (ao (v:=.str ir) (g:=Gp hp left) (by kernel_rfl) (aI (c1.mono (λv g p=>?_) id)))))
  obtain⟨rfl,c,hc,rfl⟩:=p;refine aI (uH (n:=n+10) (nm:=nm) rfl rfl λd hd=>c8 (q (.common nm c d) (by show(c.drawn&&d.drawn)=true;rw[hc,hd];rfl)))
 ·exact iw (v:=(Sp.external nm).v) (g:=Gp hp left) (by kernel_rfl) (q _ rfl)
 ·exact iw (v:=(Sp.aB nm).v) (g:=Gp hp left) (by kernel_rfl) (q _ rfl)
 ·exact iw (v:=(Sp.param nm).v) (g:=Gp hp left) (by kernel_rfl) (q _ rfl)
 ·exact iw (v:=(Sp.save nm).v) (g:=Gp hp left) (by kernel_rfl) (q _ rfl)
end
noncomputable def rK:List (Nat×By):=[(5,.free),(100,.free),(101,.free),(102,.free),(103,.free),(104,.free),(105,.free),(12,.free),(13,.free),(14,.free),(15,.free),(16,.free),(17,.free),(18,.free),(19,.free),(20,.free),(21,.free),(22,.free),(23,.free),(24,.free),(25,.free),(26,.free),(30,.free),(31,.free),(32,.free),(33,.free),(34,.free),(35,.free)]
noncomputable def bM(c1 c2 c3 c4:By)(left:Nat):G:=Gp ((1,c1)::(2,c2)::(3,c3)::(4,c4)::rK) left
section
variable{n:Nat}{l:Loc}{g:G}{P:V->G->Prop}{Ψ:Prop}
theorem lM{C:Cfg}{o:ME}{m:S}{es:List ME}(q:((fs C n).e l g o).Al (λv g=>∃k,look C g v m=some k/\(evs (fs C n) l g es).Al (λvs g=>(Ua (fs C n) g v k vs).Al P Ψ) Ψ) Ψ):((fs C (n+1)).e l g (.mcall o m es)).Al P Ψ:=by refine R.Al.bind.mpr (q.mono (λv g p=>?_) id);obtain⟨k,hk,p⟩:=p;rw[hk];exact R.Al.bind.mpr p
abbrev j0:Nat:=1953854062
theorem KZ{c1 c3 c4:By}{L:List V}{left:Nat}{j:Int}{kd:Kd}{d:Dl}{r:Option Kl}(h0:aT l gP=some (.ref 0))(h1:aT l gM=some (.inst 793 1))(h2:aT l j0=some (.int j))(hc:c1=aC kd d r)
  (q:∀s:Sp,s.drawn=true->P .none (bM c1 (.list (L++[.tup [.int (j+2),s.v]])) c3 c4 left)):
  ((fs aA (n+36)).e l (bM c1 (.list L) c3 c4 (left+1)) (.mcall (.attr (.loc 7496055) cQ) aF [.tup [.bin 0 (.loc 1953854062) (.int 2),.call (.glob 1760250341483086898531) [.loc 7365998]]])).Al P Ψ:=by
 subst hc;refine lM (n:=n+35) (aG (aq h1 (dO _)) (ao (v:=.ref 2) (g:=bM (aC kd d r) (.list L) c3 c4 (left+1)) (by kernel_rfl) ⟨.app,by kernel_rfl,?_⟩))
 refine aI (iy (n:=n+34) (aI (aG (aq h2 (dO _)) (ao (v:=.int (j+2)) (g:=bM (aC kd d r) (.list L) c3 c4 (left+1)) (by kernel_rfl) (aI (aG (aq h0 (dO _)) (SM (y:=(fs aA (n+1+32)).c (Gp ((1,aC kd d r)::(2,.list L)::(3,c3)::(4,c4)::rK) (left+1)) (.fn 882) [.ref 0]) (by kernel_rfl) (yY λs hs=>?_))))))))
 refine c8 (c8 ?_);exact ao (v:=.none) (g:=bM (aC kd d r) (.list (L++[.tup [.int (j+2),s.v]])) c3 c4 left) (by kernel_rfl) (q s hs)
theorem K0{c1 c2 c3:By}{L:List V}{left:Nat}{j:Int}{kd:Kd}{d:Dl}{r:Option Kl}(h0:aT l gP=some (.ref 0))(h1:aT l gM=some (.inst 793 1))(h2:aT l j0=some (.int j))(hc:c1=aC kd d r)
  (q:∀s:St,P .none (bM c1 c2 c3 (.list (L++[.tup [.int 0,s.v,.int (j+30)]])) left)):
  ((fs aA (n+36)).e l (bM c1 c2 c3 (.list L) (left+1)) (.mcall (.attr (.loc 7496055) fh) aF [.tup [.int 0,.call (.glob 1760250341483087162740) [.loc 7365998],.bin 0 (.loc 1953854062) (.int 30)]])).Al P Ψ:=by
 subst hc;refine lM (n:=n+35) (aG (aq h1 (dO _)) (ao (v:=.ref 4) (g:=bM (aC kd d r) c2 c3 (.list L) (left+1)) (by kernel_rfl) ⟨.app,by kernel_rfl,?_⟩))
 refine aI (iy (n:=n+34) (aI (ao (v:=.int 0) (g:=bM (aC kd d r) c2 c3 (.list L) (left+1)) (by kernel_rfl) (aI (aG (aq h0 (dO _)) (SM (y:=(fs aA (n+11+22)).c (Gp ((1,aC kd d r)::(2,c2)::(3,c3)::(4,.list L)::rK) (left+1)) (.fn 889) [.ref 0]) (by kernel_rfl) (yW λs=>?_)))))))
 refine aI (aG (aq h2 (dO _)) (ao (v:=.int (j+30)) (g:=bM (aC kd d r) c2 c3 (.list L) (left+1)) (by kernel_rfl) (c8 (c8 ?_))))
 exact ao (v:=.none) (g:=bM (aC kd d r) c2 c3 (.list (L++[.tup [.int 0,s.v,.int (j+30)]])) left) (by kernel_rfl) (q s)
end
theorem tD(imp:Bool)(ps:List (V×Sp))(a:V)(s:Sp):iS imp ps++[.tup [a,s.v]]=iS imp (ps++[(a,s)]):=by
 cases imp with
 |false=>show eZ ps++_=eZ _;unfold eZ;rw[List.map_append];rfl
 |true=>show V.tup [.int 1,j9]::(eZ ps++_)=V.tup [.int 1,j9]::eZ _;unfold eZ;rw[List.map_append];rfl
theorem AN(ps:List (V×St×V))(a b:V)(s:St):Tg ps++[.tup [a,s.v,b]]=Tg (ps++[(a,s,b)]):=by unfold Tg;rw[List.map_append];rfl
section
variable{n:Nat}{Φ:Fl->G->Prop}{Ψ:Prop}
theorem uI{c3 c4:By}{left:Nat}{kd:Kd}{d:Dl}{r:Option Kl}{imp:Bool}:∀(vs:List Int)(ps:List (V×Sp))(l:Loc),aT l gP=some (.ref 0)->aT l gM=some (.inst 793 1)->(∀p∈ps,p.2.drawn=true)->
  (∀ps' l',(∀p∈ps',p.2.drawn=true)->ps'.length=ps.length+vs.length->(∀x,x≠j0->aT l' x=aT l x)->Φ (.next l') (bM (aC kd d r) (.list (iS imp ps')) c3 c4 left))->
  (loop (fs aA (n+37)) (λl v=>some (bY l 1953854062 v)) [.expr (.mcall (.attr (.loc 7496055) cQ) aF [.tup [.bin 0 (.loc 1953854062) (.int 2),.call (.glob 1760250341483086898531) [.loc 7365998]]])] l (bM (aC kd d r) (.list (iS imp ps)) c3 c4 (left+vs.length)) (vs.map V.int)).Al Φ Ψ
 |[],ps,l,h0,h1,hp,hΦ=>aN (hΦ ps l hp rfl λ_ _=>rfl)
 |v::vs,ps,l,h0,h1,hp,hΦ=>by
  have w0:aT (bY l j0 (.int v)) gP=some (.ref 0):=by rw[aa _ _ (by decide),h0]
  have w1:aT (bY l j0 (.int v)) gM=some (.inst 793 1):=by rw[aa _ _ (by decide),h1]
  have w2:=au l j0 (.int v);refine aM (l1:=bY l j0 (.int v)) rfl (bJ (n:=n+36) ?_);rw[show left+(v::vs).length=(left+vs.length)+1 from rfl];refine KZ (n:=n) w0 w1 w2 rfl λs hs=>all_nil ?_;rw[tD];refine uI vs _ _ w0 w1 (λp hq=>?_) (λps' l' h3 h4 h5=>hΦ ps' l' h3 ?_ λx hx=>by rw[h5 x hx,aa _ _ hx])
  ·rcases List.mem_append.mp hq with hq|hq
   ·exact hp p hq
   ·rw[List.mem_singleton.mp hq];exact hs
  ·rw[h4];simp only[List.length_append,List.length_cons,List.length_nil];exact Nat.add_right_comm ps.length 1 vs.length
theorem uJ{c2 c3:By}{left:Nat}{kd:Kd}{d:Dl}{r:Option Kl}:∀(vs:List Int)(ps:List (V×St×V))(l:Loc),aT l gP=some (.ref 0)->aT l gM=some (.inst 793 1)->
  (∀ps' l',ps'.length=ps.length+vs.length->(∀x,x≠j0->aT l' x=aT l x)->Φ (.next l') (bM (aC kd d r) c2 c3 (.list (Tg ps')) left))->
  (loop (fs aA (n+37)) (λl v=>some (bY l 1953854062 v)) [.expr (.mcall (.attr (.loc 7496055) fh) aF [.tup [.int 0,.call (.glob 1760250341483087162740) [.loc 7365998],.bin 0 (.loc 1953854062) (.int 30)]])] l (bM (aC kd d r) c2 c3 (.list (Tg ps)) (left+vs.length)) (vs.map V.int)).Al Φ Ψ
 |[],ps,l,h0,h1,hΦ=>aN (hΦ ps l rfl λ_ _=>rfl)
 |v::vs,ps,l,h0,h1,hΦ=>by
  have w0:aT (bY l j0 (.int v)) gP=some (.ref 0):=by rw[aa _ _ (by decide),h0]
  have w1:aT (bY l j0 (.int v)) gM=some (.inst 793 1):=by rw[aa _ _ (by decide),h1]
  have w2:=au l j0 (.int v);refine aM (l1:=bY l j0 (.int v)) rfl (bJ (n:=n+36) ?_);rw[show left+(v::vs).length=(left+vs.length)+1 from rfl];refine K0 (n:=n) w0 w1 w2 rfl λs=>all_nil ?_;rw[AN];refine uJ vs _ _ w0 w1 (λps' l' h4 h5=>hΦ ps' l' ?_ λx hx=>by rw[h5 x hx,aa _ _ hx])
  rw[h4];simp only[List.length_append,List.length_cons,List.length_nil];exact Nat.add_right_comm ps.length 1 vs.length
theorem yZ{C:Cfg}{l:Loc}{g:G}{x:Nat}{hi:ME}{b r:List MS}(q:((fs C n).e l g hi).Al (λv g=>∃k:Nat,v=.int (k:Nat)/\k<=1000/\∀vs:List Int,vs.length=k->(loop (fs C n) (λl v=>some (bY l x v)) b l g (vs.map V.int)).Al (Tc C (n+1) r Φ Ψ) Ψ) Ψ):
  (blk (fs C (n+1)) l g (.forR x none hi b::r)).Al Φ Ψ:=by
 refine cy (C:=C) (n:=n+1) ?_;refine R.Al.bind.mpr (bu ?_);refine R.Al.bind.mpr (q.mono (λv g p=>?_) id);obtain⟨k,rfl,hk,p⟩:=p;show(match Nat.ble (0:Int).natAbs big,Nat.ble ((k:Nat):Int).natAbs big with
  |true,true=>loop (fs C n) (λl v=>some (bY l x v)) b l g (lP 0 (k:Nat))
  |_,_=>.st:R Fl).Al _ _
 rw[show Nat.ble ((k:Nat):Int).natAbs big=true from Nat.ble_eq_true_of_le (l8 hk rfl)];show R.Al (loop (fs C n) (λl v=>some (bY l x v)) b l g (lP 0 (k:Nat))) _ _;have e:lP 0 (k:Nat)=((List.range k).map λi:Nat=>(0+(i:Int))).map V.int:=by unfold lP;rw[List.map_map,Int.sub_zero,Int.toNat_natCast];rfl
 rw[e];exact p _ (by rw[List.length_map,List.length_range])
end
section
variable{n:Nat}{l:Loc}{g:G}{Φ:Fl->G->Prop}{Ψ:Prop}
theorem jT{C:Cfg}{op:Nat}{a b:ME}{P:V->G->Prop}(q:((fs C n).e l g a).Al (λx g=>((fs C n).e l g b).Al (λy g=>∃v,S6 g op x y=some v/\P v g) Ψ) Ψ):((fs C (n+1)).e l g (.bin op a b)).Al P Ψ:=by refine R.Al.bind.mpr (q.mono (λx g p=>R.Al.bind.mpr (p.mono (λy g p=>?_) id)) id);obtain⟨v,hv,p⟩:=p;rw[hv];exact bu p
noncomputable def Raw.drawn(w:Raw):Prop:=(∀p∈w.sp,p.2.drawn=true)/\w.sp.length<=7/\w.bd.length<=3
noncomputable def pD(w:Raw)(left:Nat):G:=bM (aC w.kd w.d w.r) (.list (iS w.imp w.sp)) (.list (lR w.stf)) (.list (Tg w.bd)) left
theorem Rf{r:Nat}(hr:r < 3)(g:G):∃t,SI g 0 (.int (r:Nat)) (.int 0)=some t/\(t=true\/t=false):=by
 have:=M3 _ hr;rcases this with rfl|rfl|rfl
 ·exact⟨true,rfl,.inl rfl⟩
 ·exact⟨false,rfl,.inr rfl⟩
 ·exact⟨false,rfl,.inr rfl⟩
theorem G6{hp:List (Nat×By)}{left:Nat}{P:Bool->G->Prop}(h0:aT l gP=some (.ref 0))(q:∀t,P t (Gp hp left)):(tst (fs aA (n+10)) l (Gp hp left) (.cmp 0 (pC 3) (.int 0))).Al P Ψ:=by
 refine bh (n:=n+10) (cD (n:=n+9) (dj (n:=n+5) h0 G3 λr hr=>ao (v:=.int 0) (g:=Gp hp left) (by kernel_rfl) ?_))
 obtain⟨t,ht,_⟩:=Rf hr (Gp hp left);exact⟨t,ht,t,rfl,q t⟩
theorem PE{kd:Kd}{d:Dl}{r:Option Kl}{imp:Bool}{ps:List (V×Sp)}{o:Option Nm}{left:Nat}(h0:aT l gP=some (.ref 0))(h1:aT l gM=some (.inst 793 1))
  (hΦ:∀bd left',bd.length<=3->left<=left'->Φ (.ret (.inst 793 1)) (pD ⟨kd,d,r,imp,ps,o,bd⟩ left')):
  (blk (fs aA (n+50)) l (bM (aC kd d r) (.list (iS imp ps)) (.list (lR o)) (.list []) (left+3)) (cT.drop 7)).Al Φ Ψ:=by
 refine yZ (n:=n+49) (dj (n:=n+45) h0 yU λk hk=>⟨k,rfl,l8 (Nat.le_of_lt hk) rfl,λvs hvs=>?_⟩);show R.Al (loop (fs aA (n+12+37)) _ _ l (bM (aC kd d r) (.list (iS imp ps)) (.list (lR o)) (.list (Tg [])) (left+3)) (vs.map V.int)) _ _;rw[show left+3=(left+(3 - vs.length))+vs.length from O1 (Nat.le_trans (Nat.le_of_eq hvs) (Nat.le_of_lt_succ hk))];refine uJ vs [] l h0 h1 λbd l' hb hk'=>?_;refine IF (n:=n+50) (bW (n:=n+49) (aD (n:=n+48) ((hk' gM (by decide)).trans h1) ?_))
 exact hΦ bd _ (by rw[hb,hvs];exact Nat.le_trans (Nat.le_of_eq (Nat.zero_add k)) (Nat.le_of_lt_succ hk)) (Nat.le_add_right ..)
theorem Rg{kd:Kd}{d:Dl}{r:Option Kl}{imp:Bool}{ps:List (V×Sp)}{left:Nat}(h0:aT l gP=some (.ref 0))(h1:aT l gM=some (.inst 793 1))
  (hΦ:∀o bd left',bd.length<=3->left<=left'->Φ (.ret (.inst 793 1)) (pD ⟨kd,d,r,imp,ps,o,bd⟩ left')):
  (blk (fs aA (n+50)) l (bM (aC kd d r) (.list (iS imp ps)) (.list []) (.list []) (left+4)) (cT.drop 6)).Al Φ Ψ:=by
 refine b8 (n:=n+49) (G6 (n:=n+39) h0 λt=>?_);cases t with
 |false=>refine all_nil (IF (n:=n+50) ?_);exact PE (o:=none) (left:=left+1) h0 h1 λbd left' hb h=>hΦ none bd left' hb (Bf h)
 |true=>
  refine bJ (n:=n+48) (lM (n:=n+47) (aG (aq h1 (dO _)) (ao (v:=.ref 3) (g:=bM (aC kd d r) (.list (iS imp ps)) (.list []) (.list []) (left+4)) (by kernel_rfl) ⟨.app,by kernel_rfl,?_⟩)))
  refine aI (iy (n:=n+46) (aI (ao (v:=.int 20) (g:=bM (aC kd d r) (.list (iS imp ps)) (.list []) (.list []) (left+4)) (by kernel_rfl) (aI (cK (n:=n+45) (ao (v:=rJ) (g:=bM (aC kd d r) (.list (iS imp ps)) (.list []) (.list []) (left+4)) (by kernel_rfl) (dj (n:=n+41) h0 BX λk hk=>?_)))))))
  obtain⟨nm,hnm⟩:=oN (bM (aC kd d r) (.list (iS imp ps)) (.list []) (.list []) (left+4)) hk;refine⟨_,hnm,?_⟩;refine aI (ao (v:=.lst [.str nJ]) (g:=bM (aC kd d r) (.list (iS imp ps)) (.list []) (.list []) (left+4)) (by kernel_rfl) (aI (ao (v:=eY) (g:=bM (aC kd d r) (.list (iS imp ps)) (.list []) (.list []) (left+4)) (by kernel_rfl) (c8 (c8 ?_)))))
  refine ao (v:=.none) (g:=bM (aC kd d r) (.list (iS imp ps)) (.list (lR (some nm))) (.list []) (left+3)) (by kernel_rfl) (all_nil (IF (n:=n+50) ?_))
  exact PE (o:=some nm) (left:=left) h0 h1 λbd left' hb h=>hΦ (some nm) bd left' hb h
end
section
variable{n:Nat}{l:Loc}{g:G}{Φ:Fl->G->Prop}{Ψ:Prop}
theorem PF{kd:Kd}{d:Dl}{r:Option Kl}{imp:Bool}{left:Nat}(h0:aT l gP=some (.ref 0))(h1:aT l gM=some (.inst 793 1))
  (hΦ:∀w:Raw,w.kd=kd->w.d=d->w.r=r->w.drawn->∀left',left<=left'->Φ (.ret (.inst 793 1)) (pD w left')):
  (blk (fs aA (n+50)) l (bM (aC kd d r) (.list (iS imp [])) (.list []) (.list []) (left+11)) (cT.drop 5)).Al Φ Ψ:=by
 have hk7:∀(k:Nat)(g:G),S6 g 0 (.int 1) (.int (k:Nat))=some (.int ((k+1:Nat):Int)):=λk g=>by show some (V.int (1+(k:Int)))=_;exact congrArg (λi=>some (V.int i)) (Int.add_comm 1 k)
 refine yZ (n:=n+49) (jT (n:=n+48) (ao (v:=.int 1) (g:=bM (aC kd d r) (.list (iS imp [])) (.list []) (.list []) (left+11)) (by kernel_rfl) (dj (n:=n+44) h0 Mx λk hk=>⟨_,hk7 k _,k+1,rfl,l8 hk rfl,λvs hvs=>?_⟩)))
 show R.Al (loop (fs aA (n+12+37)) _ _ l (bM (aC kd d r) (.list (iS imp [])) (.list []) (.list []) (left+11)) (vs.map V.int)) _ _;rw[show left+11=(left+(7 - vs.length)+4)+vs.length from QK (Nat.le_trans (Nat.le_of_eq hvs) hk)];refine uI vs [] l h0 h1 (λp hp=>by cases hp) λps l' hd hlen hk'=>?_
 refine IF (n:=n+50) (Rg (left:=left+(7 - vs.length)) ((hk' gP (by decide)).trans h0) ((hk' gM (by decide)).trans h1) λo bd left' hb h=>?_)
 exact hΦ ⟨kd,d,r,imp,ps,o,bd⟩ rfl rfl rfl ⟨hd,by rw[hlen,hvs];exact Nat.le_trans (Nat.le_of_eq (Nat.zero_add (k+1))) hk,hb⟩ left' (Bf h)
theorem Rh{kd:Kd}{d:Dl}{r:Option Kl}{left:Nat}(h0:aT l gP=some (.ref 0))(h1:aT l gM=some (.inst 793 1))
  (hΦ:∀w:Raw,w.kd=kd->w.d=d->w.r=r->w.drawn->∀left',left<=left'->Φ (.ret (.inst 793 1)) (pD w left')):
  (blk (fs aA (n+50)) l (bM (aC kd d r) (.list []) (.list []) (.list []) (left+12)) (cT.drop 4)).Al Φ Ψ:=by
 refine b8 (n:=n+49) (G6 (n:=n+39) h0 λt=>?_);cases t with
 |false=>refine all_nil (IF (n:=n+50) ?_);exact PF (imp:=false) (left:=left+1) h0 h1 λw a b c e left' h=>hΦ w a b c e left' (Bf h)
 |true=>
  refine bJ (n:=n+48) (aG (aq h1 (dO _)) (ao (v:=.none) (g:=bM (aC kd d r) (.list (iS true [])) (.list []) (.list []) (left+11)) (by kernel_rfl) (all_nil (IF (n:=n+50) ?_))))
  exact PF (imp:=true) (left:=left) h0 h1 hΦ
theorem y9{C:Cfg}{o e:ME}{a:S}{r:List MS}(q:((fs C n).e l g e).Al (λv g=>∃c d k cell g',(fs C n).e l g o=.ok (.inst c d) g/\aT C.ct c=some k/\(g.get d).put a v=some cell/\g.set d cell=.ok () g'/\(blk (fs C (n+1)) l g' r).Al Φ Ψ) Ψ):(blk (fs C (n+1)) l g (.asgA o a e::r)).Al Φ Ψ:=by
 refine cy (C:=C) (n:=n+1) (R.Al.bind.mpr (q.mono (λv g p=>?_) id));obtain⟨c,d,k,cell,g',h1,h2,h3,h4,p⟩:=p;rw[h1];refine R.Al.bind.mpr (bu ?_);show(match aT C.ct c,(g.get d).put a v with
  |some _,some c=>(g.set d c).bind λ_ g=>.ok (.next l) g
  |_,_=>.st:R Fl).Al _ _
 rw[h2,h3];show((g.set d cell).bind λ_ g=>.ok (.next l) g:R Fl).Al _ _;rw[h4];exact bu (IF p)
end
theorem DU{kd:Kd}{d:Dl}{r:Option Kl} (h:(match kd,d,r with
 | .prog,.d0,none=>true
 | .fM,.d0,_=>false
 | .fM,_,none=>true
 | .func,.d0,_=>false
 | .func,_,none=>true
 | .func,_,some k=>k.drawn
 |_,_,_=>false)=true) {w:Raw} (h1:w.kd=kd) (h2:w.d=d) (h3:w.r=r) (hw:w.drawn):w.ok=true:=by
 subst h1 h2 h3;refine Bool.and_eq_true_iff.mpr ⟨h,List.all_eq_true.mpr λp hp=>Sp.G4 (hw.1 p hp)⟩
section
variable{n:Nat}{Ψ:Prop}{Φ:Fl->G->Prop}
noncomputable def wF(kd:Kd):Loc:=[(7365998,.ref 0),(1802071652,.str kd.s),(7496055,.inst 793 1)]
noncomputable def AO(kd:Kd)(d:Dl)(r:Option Kl):Bool:=match kd,d,r with
 | .prog,.d0,none=>true
 | .fM,.d0,_=>false
 | .fM,_,none=>true
 | .func,.d0,_=>false
 | .func,_,none=>true
 | .func,_,some k=>k.drawn
 |_,_,_=>false
theorem PG{kd:Kd}{d:Dl}{left:Nat}(hk:AO kd d none=true)(hΦ:∀w:Raw,w.ok=true->(w.sp.length<=7/\w.bd.length<=3)->∀left',left<=left'->Φ (.ret (.inst 793 1)) (pD w left')):
  (blk (fs aA (n+50)) (wF kd) (bM (aC kd d none) (.list []) (.list []) (.list []) (left+12)) (cT.drop 3)).Al Φ Ψ:=by
 have fin:∀r,AO kd d r=true->(blk (fs aA (n+50)) (wF kd) (bM (aC kd d r) (.list []) (.list []) (.list []) (left+12)) (cT.drop 4)).Al Φ Ψ:=λr hr=>Rh (left:=left) rfl rfl λw a b c e left' h=>hΦ w (DU hr a b c e) e.2 left' h
 have no:∀kd',kd=kd'->(fs aA (n+49)).e (wF kd') (bM (aC kd' d none) (.list []) (.list []) (.list []) (left+12)) (.and [.cmp 0 (.loc 1802071652) (.str cX),.cmp 0 (.call (.glob 1760250341482835370359) [.loc 7365998,.int 2]) (.int 0)])=.ok (.bool false) (bM (aC kd' d none) (.list []) (.list []) (.list []) (left+12))->
   (blk (fs aA (n+50)) (wF kd') (bM (aC kd' d none) (.list []) (.list []) (.list []) (left+12)) (cT.drop 3)).Al Φ Ψ:=by
  rintro kd' rfl e
  refine b8 (n:=n+49) (bh (n:=n+49) (ao e ⟨false,rfl,?_⟩));exact all_nil (IF (n:=n+50) (fin none hk))
 cases kd with
 |prog=>exact no .prog rfl (by kernel_rfl)
 |fM=>exact no .fM rfl (by kernel_rfl)
 |func=>
  refine b8 (n:=n+49) (bh (n:=n+49) (iO (n:=n+48) (ao (v:=.bool true) (g:=bM (aC .func d none) (.list []) (.list []) (.list []) (left+12)) (by kernel_rfl) ⟨true,rfl,?_⟩)))
  refine cD (n:=n+47) (dj (n:=n+43) rfl Mw λr hr=>ao (v:=.int 0) (g:=bM (aC .func d none) (.list []) (.list []) (.list []) (left+12)) (by kernel_rfl) ?_)
  have:=OZ _ hr;rcases this with rfl|rfl
  ·refine⟨true,rfl,true,rfl,?_⟩;have put:∀(k:Kl),k.drawn=true->AO .func d (some k)=true->(blk (fs aA (n+49)) (wF .func) (bM (aC .func d (some k)) (.list []) (.list []) (.list []) (left+12)) []).Al (Tc aA (n+50) (cT.drop 4) Φ Ψ) Ψ:=λk _ hk2=>all_nil (IF (n:=n+50) (fin (some k) hk2));have hd:∀k:Kl,k.drawn=true->AO .func d (some k)=true:=λk h=>by
    cases d with
    |d0=>cases hk
    |_=>exact h
   refine y9 (n:=n+48) (iy (n:=n+47) (aI (dj (n:=n+43) rfl yU λk hk4=>aI (ao (v:=.none) (g:=bM (aC .func d none) (.list []) (.list []) (.list []) (left+12)) (by kernel_rfl) (c8 ?_)))))
   have:=Ja _ hk4;rcases this with rfl|rfl|rfl|rfl
   ·exact⟨793,1,_,_,bM (aC .func d (some .k0)) (.list []) (.list []) (.list []) (left+12),by kernel_rfl,rfl,rfl,by kernel_rfl,put .k0 rfl (hd .k0 rfl)⟩
   ·exact⟨793,1,_,_,bM (aC .func d (some .k1)) (.list []) (.list []) (.list []) (left+12),by kernel_rfl,rfl,rfl,by kernel_rfl,put .k1 rfl (hd .k1 rfl)⟩
   ·exact⟨793,1,_,_,bM (aC .func d (some .k2)) (.list []) (.list []) (.list []) (left+12),by kernel_rfl,rfl,rfl,by kernel_rfl,put .k2 rfl (hd .k2 rfl)⟩
   ·exact⟨793,1,_,_,bM (aC .func d (some .k3)) (.list []) (.list []) (.list []) (left+12),by kernel_rfl,rfl,rfl,by kernel_rfl,put .k3 rfl (hd .k3 rfl)⟩
  ·refine⟨false,rfl,false,rfl,?_⟩;exact all_nil (IF (n:=n+50) (fin none hk))
theorem NU{kd:Kd}{left:Nat}(hΦ:∀w:Raw,w.ok=true->(w.sp.length<=7/\w.bd.length<=3)->∀left',left<=left'->Φ (.ret (.inst 793 1)) (pD w left')):
  (blk (fs aA (n+50)) (wF kd) (bM (aC kd .d0 none) (.list []) (.list []) (.list []) (left+12)) (cT.drop 2)).Al Φ Ψ:=by
 have bF:∀kd',kd'≠Kd.prog->(fs aA (n+49)).e (wF kd') (bM (aC kd' .d0 none) (.list []) (.list []) (.list []) (left+12)) (.cmp 1 (.loc 1802071652) (.str i7))=.ok (.bool true) (bM (aC kd' .d0 none) (.list []) (.list []) (.list []) (left+12))->
   (∀d:Dl,d≠.d0->AO kd' d none=true)->(blk (fs aA (n+50)) (wF kd') (bM (aC kd' .d0 none) (.list []) (.list []) (.list []) (left+12)) (cT.drop 2)).Al Φ Ψ:=by
  intro kd' hne e hok;refine b8 (n:=n+49) (bh (n:=n+49) (ao e ⟨true,rfl,?_⟩));refine y9 (n:=n+48) (cK (n:=n+47) (ao (v:=.lst [.lst [.str nC],.lst [.str nI,.str nC],.lst [.str yC],.lst [.str nB]]) (g:=bM (aC kd' .d0 none) (.list []) (.list []) (.list []) (left+12)) (by kernel_rfl) (dj (n:=n+43) rfl yU λk hk4=>?_)))
  have fin:∀d:Dl,d≠.d0->(blk (fs aA (n+49)) (wF kd') (bM (aC kd' d none) (.list []) (.list []) (.list []) (left+12)) []).Al (Tc aA (n+50) (cT.drop 3) Φ Ψ) Ψ:=λd hd=>all_nil (IF (n:=n+50) (PG (hok d hd) hΦ));have:=Ja _ hk4;rcases this with rfl|rfl|rfl|rfl
  ·exact⟨_,rfl,793,1,_,_,bM (aC kd' .dC none) (.list []) (.list []) (.list []) (left+12),by kernel_rfl,rfl,rfl,by kernel_rfl,fin .dC (by decide)⟩
  ·exact⟨_,rfl,793,1,_,_,bM (aC kd' .EG none) (.list []) (.list []) (.list []) (left+12),by kernel_rfl,rfl,rfl,by kernel_rfl,fin .EG (by decide)⟩
  ·exact⟨_,rfl,793,1,_,_,bM (aC kd' .dS none) (.list []) (.list []) (.list []) (left+12),by kernel_rfl,rfl,rfl,by kernel_rfl,fin .dS (by decide)⟩
  ·exact⟨_,rfl,793,1,_,_,bM (aC kd' .dB none) (.list []) (.list []) (.list []) (left+12),by kernel_rfl,rfl,rfl,by kernel_rfl,fin .dB (by decide)⟩
 cases kd with
 |prog=>
  refine b8 (n:=n+49) (bh (n:=n+49) (ao (v:=.bool false) (g:=bM (aC .prog .d0 none) (.list []) (.list []) (.list []) (left+12)) (by kernel_rfl) ⟨false,rfl,?_⟩))
  exact all_nil (IF (n:=n+50) (PG rfl hΦ))
 |fM=>exact bF .fM (by decide) (by kernel_rfl) λd hd=>by cases d<;>first|rfl|exact absurd rfl hd
 |func=>exact bF .func (by decide) (by kernel_rfl) λd hd=>by cases d<;>first|rfl|exact absurd rfl hd
theorem AP{left:Nat}{P:V->G->Prop}(q:∀w:Raw,w.ok=true->(w.sp.length<=7/\w.bd.length<=3)->∀left',left<=left'->P (.inst 793 1) (pD w left')):
  ((fs aA (n+51)).c (bM .free .free .free .free (left+12)) (.fn 929) [.ref 0]).Al P Ψ:=by
 refine dU (n:=n+50) (l:=[(7365998,.ref 0)]) rfl rfl rfl ?_;refine aZ (n:=n+49) (cK (n:=n+48) (ao (v:=.tup [.str Kd.prog.s,.str Kd.fM.s,.str Kd.func.s]) (g:=bM .free .free .free .free (left+12)) (by kernel_rfl) (dj (n:=n+44) rfl G3 λk hk=>?_)))
 have:=M3 _ hk;rcases this with rfl|rfl|rfl
 ·refine⟨_,rfl,aZ (n:=n+49) (ao (v:=.inst 793 1) (g:=bM (aC .prog .d0 none) (.list []) (.list []) (.list []) (left+12)) (by kernel_rfl) (NU (kd:=.prog) q))⟩
 ·refine⟨_,rfl,aZ (n:=n+49) (ao (v:=.inst 793 1) (g:=bM (aC .fM .d0 none) (.list []) (.list []) (.list []) (left+12)) (by kernel_rfl) (NU (kd:=.fM) q))⟩
 ·refine⟨_,rfl,aZ (n:=n+49) (ao (v:=.inst 793 1) (g:=bM (aC .func .d0 none) (.list []) (.list []) (.list []) (left+12)) (by kernel_rfl) (NU (kd:=.func) q))⟩
end
abbrev dg:Nat:=439720572019
abbrev gC:Nat:=1953459300
abbrev fF:Nat:=119183001281906
theorem tE(h:Hl)(imp:Bool)(s:LS)(left n:Nat)(sp:Sp){P:V->G->Prop}{Ψ:Prop}(hP:∀left',left<=left'->P .none (aH h imp (s.spec sp) left' [2])):
  ((fs aA (n+60)).c (aH h imp s (left+2) [2]) (.fn 903) [sp.v,.ref 5,.ref 12]).Al P Ψ:=by
 cases sp with
 |type nm k d=>
  cases d with
  |d0=>exact ao (DN h imp (left+1) n k s nm) (hP _ (Nat.le_succ _))
  |d1=>exact ao (AH h imp left n k s nm) (hP _ (Nat.le_refl _))
  |d2=>exact ao (AI h imp left n k s nm) (hP _ (Nat.le_refl _))
  |d3=>exact ao (AJ h imp left n k s nm) (hP _ (Nat.le_refl _))
 |dimension nm=>exact ao (KY h imp (left+1) n s nm) (hP _ (Nat.le_succ _))
 |common nm c d=>
  cases d with
  |d0=>exact ao (G2 h imp (left+1) n c s nm) (hP _ (Nat.le_succ _))
  |d1=>exact ao (DP h imp left n c s nm) (hP _ (Nat.le_refl _))
  |d2=>exact ao (DQ h imp left n c s nm) (hP _ (Nat.le_refl _))
  |d3=>exact ao (DR h imp left n c s nm) (hP _ (Nat.le_refl _))
 |param nm=>exact ao (AK h imp (left+1) n s nm) (hP _ (Nat.le_succ _))
 |external nm=>exact ao (tC h imp (left+1) n s nm) (hP _ (Nat.le_succ _))
 |aB nm=>exact ao (rI h imp (left+1) n s nm) (hP _ (Nat.le_succ _))
 |save nm=>exact ao (DS h imp (left+1) n s nm) (hP _ (Nat.le_succ _))
noncomputable def LS.specs:LS->List Sp->LS
 |s,[]=>s
 |s,p::r=>(s.spec p).specs r
noncomputable def LS.stmts:LS->List St->LS
 |s,[]=>s
 |s,p::r=>(s.stmt p).stmts r
noncomputable def G7:List MS:=[.ifs (.cmp 0 (.sub (.loc 1936745827) (.int 0)) (.str aX)) [.g7 (.loc 119183001281906) (.str [67]) (.tup [.int 5,.tup [.str cz,.int 3]])] [.expr (.call (.glob 495466423873876155847037156543657075) [.loc 1936745827,.loc 439720572019,.loc 1953459300])]]
theorem NV(g:G)(n:Nat)(sp:Sp):(fs aA (n+20)).e [(bR,sp.v)] g (.cmp 0 (.sub (.loc 1936745827) (.int 0)) (.str aX))=.ok (.bool false) g:=by cases sp<;>kernel_rfl
theorem iR(h:Hl)(imp:Bool)(n:Nat){Φ:Fl->G->Prop}{Ψ:Prop}:∀(ps:List (V×Sp))(s:LS)(left:Nat)(l:Loc),aT l dg=some (.ref 5)->aT l gC=some (.ref 12)->
  (∀left' l',left<=left'->(∀x,x≠bN->x≠bR->aT l' x=aT l x)->Φ (.next l') (aH h imp (s.specs (ps.map λq:V×Sp=>q.2)) left' [2]))->
  (loop (fs aA (n+63)) (λl v=>SK l [bN,bR] v) G7 l (aH h imp s (left+2 * ps.length) [2]) (eZ ps)).Al Φ Ψ
 |[],s,left,l,h1,h2,hΦ=>aN (hΦ left l (Nat.le_refl _) λ_ _ _=>rfl)
 |p::ps,s,left,l,h1,h2,hΦ=>by
  have w1:aT (bY (bY l bN p.1) bR p.2.v) dg=some (.ref 5):=by rw[aa _ _ (by decide),aa _ _ (by decide),h1]
  have w2:aT (bY (bY l bN p.1) bR p.2.v) gC=some (.ref 12):=by rw[aa _ _ (by decide),aa _ _ (by decide),h2]
  have w3:=au (bY l bN p.1) bR p.2.v;refine aM (l1:=bY (bY l bN p.1) bR p.2.v) rfl ?_;refine b8 (n:=n+62) (bh (n:=n+62) (aG (aq w3 (dO _)) (ao (NV _ (n+42) p.2) ⟨false,rfl,?_⟩)));refine bJ (n:=n+61) (aG (aq w3 (aq w1 (aq w2 (dO _)))) ?_);refine SM (y:=(fs aA (n+60)).c (aH h imp s (left+2 * (p::ps).length) [2]) (.fn 903) [p.2.v,.ref 5,.ref 12]) (by kernel_rfl) ?_
  rw[show left+2 * (p::ps).length=(left+2 * ps.length)+2 from rfl];refine tE h imp s (left+2 * ps.length) n p.2 λleft' hle=>all_nil (cV (n:=n+63) ?_);obtain⟨k,rfl⟩:∃k,left'=(left+k)+2 * ps.length:=OQ hle;exact iR h imp n ps (s.spec p.2) (left+k) _ w1 w2 λleft'' l' hle' hk=>hΦ left'' l' (Bf hle') λx h1 h2=>by rw[hk x h1 h2,aa _ _ h2,aa _ _ h1]
theorem rM{C:Cfg}{n:Nat}{l:Loc}{g:G}{o i e:ME}{r:List MS}{Φ:Fl->G->Prop}{Ψ:Prop}(q:((fs C n).e l g e).Al (λv g=>((fs C n).e l g o).Al (λw g=>((fs C n).e l g i).Al (λk g=>∃j s c' g',w=.ref j/\k=.str s/\(g.get j).put s v=some c'/\g.set j c'=.ok () g'/\(blk (fs C (n+1)) l g' r).Al Φ Ψ) Ψ) Ψ) Ψ):
  (blk (fs C (n+1)) l g (.g7 o i e::r)).Al Φ Ψ:=by
 refine cy (C:=C) (n:=n+1) (R.Al.bind.mpr (q.mono (λv g p=>R.Al.bind.mpr (p.mono (λw g p=>R.Al.bind.mpr (p.mono (λk g p=>?_) id)) id)) id));obtain⟨j,s,c',g',rfl,rfl,h1,h2,p⟩:=p;show(match Te (g.get j) (.str s) v with
   |some c=>(g.set j c).bind λ_ g=>.ok (.next l) g
   |none=>.st:R Fl).Al _ _
 have:Te (g.get j) (.str s) v=(g.get j).put s v:=by cases g.get j<;>rfl
 rw[this,h1];show((g.set j c').bind λ_ g=>.ok (.next l) g:R Fl).Al _ _;rw[h2];exact bu (IF p)
theorem tF(h:Hl)(imp:Bool)(n:Nat){Φ:Fl->G->Prop}{Ψ:Prop}(ps:List (V×Sp))(s:LS)(left:Nat)(l:Loc)(h1:aT l dg=some (.ref 5))(h2:aT l gC=some (.ref 12))(h3:aT l fF=some (.ref 13))
  (hΦ:∀left' l',left<=left'->(∀x,x≠bN->x≠bR->aT l' x=aT l x)->Φ (.next l') (aH h imp (s.specs (ps.map λq:V×Sp=>q.2)) left' [2])):
  (loop (fs aA (n+63)) (λl v=>SK l [bN,bR] v) G7 l (aH h false s (left+2 * ps.length) [2]) (iS imp ps)).Al Φ Ψ:=by
 cases imp with
 |false=>exact iR h false n ps s left l h1 h2 hΦ
 |true=>
  have w1:aT (bY (bY l bN (.int 1)) bR j9) dg=some (.ref 5):=by rw[aa _ _ (by decide),aa _ _ (by decide),h1]
  have w2:aT (bY (bY l bN (.int 1)) bR j9) gC=some (.ref 12):=by rw[aa _ _ (by decide),aa _ _ (by decide),h2]
  have w4:aT (bY (bY l bN (.int 1)) bR j9) fF=some (.ref 13):=by rw[aa _ _ (by decide),aa _ _ (by decide),h3]
  have w3:=au (bY l bN (.int 1)) bR j9;refine aM (l1:=bY (bY l bN (.int 1)) bR j9) rfl ?_;refine b8 (n:=n+62) (bh (n:=n+62) (aG (aq w3 (dO _)) (ao (v:=.bool true) (g:=aH h false s (left+2 * ps.length) [2]) (by kernel_rfl) ⟨true,rfl,?_⟩)))
  refine rM (n:=n+61) (ao (v:=.tup [.int 5,.tup [.str gY,.int 3]]) (g:=aH h false s (left+2 * ps.length) [2]) (by kernel_rfl) (aD (n:=n+60) w4 (ao (v:=.str [67]) (g:=aH h false s (left+2 * ps.length) [2]) (by kernel_rfl) ⟨13,[67],_,aH h true s (left+2 * ps.length) [2],rfl,rfl,rfl,by kernel_rfl,?_⟩)))
  refine all_nil (cV (n:=n+63) ?_);exact iR h true n ps s left _ w1 w2 λleft'' l' hle' hk=>hΦ left'' l' hle' λx h1 h2=>by rw[hk x h1 h2,aa _ _ h2,aa _ _ h1]
noncomputable def Mz:List MS:=[.expr (.call (.glob 495466423873876230215259278289368179) [.loc 1937010036,.loc 439720572019])]
theorem tG(h:Hl)(imp:Bool)(s:LS)(left n:Nat)(st:St){P:V->G->Prop}{Ψ:Prop}(hP:∀left',left<=left'->P .none (aH h imp (s.stmt st) left' [4])):
  ((fs aA (n+60)).c (aH h imp s (left+3) [4]) (.fn 896) [st.v,.ref 5]).Al P Ψ:=by
 cases st with
 |assign nm=>exact ao (wC h imp (left+1) n s nm) (hP _ (Nat.le_succ _))
 |pP nm=>exact ao (DT h imp left n s nm) (hP _ (Nat.le_refl _))
 |call nm=>exact ao (AL h imp (left+2) n s nm) (hP _ (Nat.le_add_right _ 2))
 |read nm=>exact ao (AM h imp (left+1) n s nm) (hP _ (Nat.le_succ _))
theorem lW(h:Hl)(imp:Bool)(n:Nat){Φ:Fl->G->Prop}{Ψ:Prop}:∀(ps:List (V×St×V))(s:LS)(left:Nat)(l:Loc),aT l dg=some (.ref 5)->
  (∀left' l',left<=left'->(∀x,x≠ji->x≠jF->x≠bN->aT l' x=aT l x)->Φ (.next l') (aH h imp (s.stmts (ps.map λq:V×St×V=>q.2.1)) left' [4]))->
  (loop (fs aA (n+62)) (λl v=>SK l [ji,jF,bN] v) Mz l (aH h imp s (left+3 * ps.length) [4]) (Tg ps)).Al Φ Ψ
 |[],s,left,l,h1,hΦ=>aN (hΦ left l (Nat.le_refl _) λ_ _ _ _=>rfl)
 |p::ps,s,left,l,h1,hΦ=>by
  have w0:aT (bY (bY (bY l ji p.1) jF p.2.1.v) bN p.2.2) dg=some (.ref 5):=by rw[aa _ _ (by decide),aa _ _ (by decide),aa _ _ (by decide),h1]
  have w1:aT (bY (bY (bY l ji p.1) jF p.2.1.v) bN p.2.2) jF=some p.2.1.v:=by rw[aa _ _ (by decide),au]
  refine aM (l1:=bY (bY (bY l ji p.1) jF p.2.1.v) bN p.2.2) rfl (bJ (n:=n+61) (aG (aq w1 (aq w0 (dO _))) ?_));refine SM (y:=(fs aA (n+60)).c (aH h imp s (left+3 * (p::ps).length) [4]) (.fn 896) [p.2.1.v,.ref 5]) (by kernel_rfl) ?_
  rw[show left+3 * (p::ps).length=(left+3 * ps.length)+3 from rfl];refine tG h imp s (left+3 * ps.length) n p.2.1 λleft' hle=>all_nil ?_;obtain⟨k,rfl⟩:∃k,left'=(left+k)+3 * ps.length:=OQ hle;exact lW h imp n ps (s.stmt p.2.1) (left+k) _ w0 λleft'' l' hle' hk=>hΦ left'' l' (Bf hle') λx h1 h2 h3=>by rw[hk x h1 h2 h3,aa _ _ h3,aa _ _ h2,aa _ _ h1]
theorem DV(h:Hl)(imp:Bool)(s:LS)(left n:Nat)(nm:Nm):(fs aA (n+20)).e [(dg,.ref 5),(iF,.str nm.str)] (aH h imp s (left+1) [3]) (.mcall (.sub (.loc 439720572019) (.loc 1851878757)) aF [.str bf])=.ok .none (aH h imp (s.app nm jS) left [3]):=by cases nm<;>kernel_rfl
theorem DW(h:Hl)(imp:Bool)(s:LS)(left n:Nat):(fs aA (n+20)).e [(dg,.ref 5)] (aH h imp s (left+1) [3]) (.mcall (.sub (.loc 439720572019) (.str [74])) aF [.str iY])=.ok .none (aH h imp (s.app .j AG) left [3]):=by kernel_rfl
theorem za(h:Hl)(imp:Bool)(s:LS)(left n:Nat)(nm:Nm):(fs aA (n+20)).e [(dg,.ref 5),(iF,.str nm.str)] (aH h imp s (left+1) []) (.mcall (.sub (.loc 439720572019) (.loc 1851878757)) aF [.str cS])=.ok .none (aH h imp (s.app nm d7) left []):=by cases nm<;>kernel_rfl
noncomputable def LS.stf(s:LS):Option Nm->LS
 |none=>s
 |some n=>(s.app n jS).app .j AG
noncomputable def LS.tH:LS->List Nm->LS
 |s,[]=>s
 |s,n::r=>(s.app n d7).tH r
noncomputable def PI:List MS:=[.expr (.mcall (.sub (.loc 439720572019) (.loc 1851878757)) aF [.str bf]),.expr (.mcall (.sub (.loc 439720572019) (.str [74])) aF [.str iY])]
theorem wG(h:Hl)(imp:Bool)(s:LS)(left n:Nat)(o:Option Nm)(l:Loc){Φ:Fl->G->Prop}{Ψ:Prop}(h1:aT l dg=some (.ref 5))
  (hΦ:∀left' l',left<=left'->(∀x,x≠bN->x≠iF->x≠jc->x≠iQ->aT l' x=aT l x)->Φ (.next l') (aH h imp (s.stf o) left' [3])):
  (loop (fs aA (n+22)) (λl v=>SK l [bN,iF,jc,iQ] v) PI l (aH h imp s (left+2) [3]) (lR o)).Al Φ Ψ:=by
 cases o with
 |none=>exact aN (hΦ (left+2) l (Nat.le_add_right _ 2) λ_ _ _ _ _=>rfl)
 |some nm=>
  have w0:aT (bY (bY (bY (bY l bN (.int 20)) iF (.str nm.str)) jc (.lst [.str nJ])) iQ eY) dg=some (.ref 5):=by rw[aa _ _ (by decide),aa _ _ (by decide),aa _ _ (by decide),aa _ _ (by decide),h1]
  have w1:aT (bY (bY (bY (bY l bN (.int 20)) iF (.str nm.str)) jc (.lst [.str nJ])) iQ eY) iF=some (.str nm.str):=by rw[aa _ _ (by decide),aa _ _ (by decide),au]
  refine aM (l1:=bY (bY (bY (bY l bN (.int 20)) iF (.str nm.str)) jc (.lst [.str nJ])) iQ eY) rfl ?_;refine bJ (n:=n+21) (aG (aq w0 (aq w1 (dO _))) (ao (DV h imp s (left+1) (n+1) nm) ?_));refine bJ (n:=n+21) (aG (aq w0 (dO _)) (ao (DW h imp (s.app nm jS) left (n+1)) (all_nil (aN (hΦ left _ (Nat.le_refl _) λx h1 h2 h3 h4=>?_)))));rw[aa _ _ h4,aa _ _ h3,aa _ _ h2,aa _ _ h1]
noncomputable def PJ:List MS:=[.expr (.mcall (.sub (.loc 439720572019) (.loc 1851878757)) aF [.str cS])]
theorem nF(h:Hl)(imp:Bool)(n:Nat){Φ:Fl->G->Prop}{Ψ:Prop}:∀(L:List Nm)(s:LS)(left:Nat)(l:Loc),aT l dg=some (.ref 5)->
  (∀l',(∀x,x≠iF->aT l' x=aT l x)->Φ (.next l') (aH h imp (s.tH L) left []))->
  (loop (fs aA (n+22)) (λl v=>some (bY l 1851878757 v)) PJ l (aH h imp s (left+L.length) []) (I4 L)).Al Φ Ψ
 |[],s,left,l,h1,hΦ=>aN (hΦ l λ_ _=>rfl)
 |nm::L,s,left,l,h1,hΦ=>by
  have w0:aT (bY l iF (.str nm.str)) dg=some (.ref 5):=by rw[aa _ _ (by decide),h1]
  have w1:=au l iF (.str nm.str);refine aM (l1:=bY l iF (.str nm.str)) rfl (bJ (n:=n+21) (aG (aq w0 (aq w1 (dO _))) (ao (g:=aH h imp (s.app nm d7) (left+L.length) []) (za h imp s (left+L.length) (n+1) nm) (all_nil ?_))));exact nF h imp n L _ left _ w0 λl' hk=>hΦ l' λx hx=>by rw[hk x hx,aa _ _ hx]
noncomputable def OU:LN:=⟨[],none,none,none⟩
noncomputable def NW:LS:=⟨OU,OU,OU,OU,OU,OU,[]⟩
noncomputable def LS.head(kd:Kd)(r:Option Kl):LS:=match kd with
 | .func=>match r with
  |none=>NW.app .b wB
  |some k=>((NW.app .b wB).app .b jX).uF .b k
 |_=>NW
noncomputable def G8:MS:=.ifs (.cmp 0 (.attr (.loc 7496055) cu) (.str cX)) [.expr (.mcall (.sub (.loc 439720572019) (.str [66])) aF [.str aW]),.ifs (.cmp 7 (.attr (.loc 7496055) aW) (.none)) [.expr (.mcall (.sub (.loc 439720572019) (.str [66])) aF [.str dD]),.g7 (.loc 1953459300) (.str [66]) (.attr (.loc 7496055) aW)] []] []
noncomputable def rN(kd:Kd)(r:Option Kl)(left:Nat):Nat:=match kd with
 | .func=>match r with
  |none=>left+1
  |some _=>left
 |_=>left+2
theorem K1(h:Hl)(kd:Kd)(d:Dl)(r:Option Kl)(hr:AO kd d r=true)(left n:Nat)(hc:h.c1=aC kd d r):
  (fs aA (n+30)).s [(gM,.inst 793 1),(dg,.ref 5),(gC,.ref 12),(fF,.ref 13)] (aH h false NW (left+2) []) G8=.ok (.next [(gM,.inst 793 1),(dg,.ref 5),(gC,.ref 12),(fF,.ref 13)]) (aH h false (LS.head kd r) (rN kd r left) []):=by
 obtain⟨c0,c1,c2,c3,c4,I2,EF⟩:=h;have hc:c1=_:=hc;subst hc;cases kd with
 |prog=>kernel_rfl
 |fM=>kernel_rfl
 |func=>
  cases r with
  |none=>kernel_rfl
  |some k=>
   have:k.drawn=true:=by cases d<;>first|exact hr|cases hr
   cases k<;>first|(cases this;done)|kernel_rfl
noncomputable def bT(L:List S):List V:=L.map .str
noncomputable def G9(v:V):List V:=match v with
 | .tup l=>l
 |_=>[]
noncomputable def Hg:V->S
 | .str s=>s
 |_=>[]
noncomputable def B3:List S:=[jX,jY,ir,bG,cC,bQ]
noncomputable def zb:List (S×S):=(match aT zU 115359766379416827079058788 with
 |some v=>G9 v
 |none=>[]).map λp=>match G9 p with
  |[a,b]=>(Hg a,Hg b)
  |_=>([],[])
theorem K2:aT zU 1760250341483019658085=some (.tup (bT B3)):=by kernel_rfl
noncomputable def nG(p:S×S):V:=.tup [.str p.1,.str p.2]
theorem Hh:aT zU 115359766379416827079058788=some (.tup (zb.map nG)):=by kernel_rfl
theorem Hi(a b x y:S):veq (.tup [.str a,.str b]) (.tup [.str x,.str y])=some (As a x&&As b y):=by
 show(match some (As a x)with|some true=>(match some (As b y)with|some true=>some true|some false=>some false|none=>none)|some false=>(match(match some (As b y)with|some true=>some true|some false=>some false|none=>none:Option Bool)with|some _=>some false|none=>none)|none=>none)=_
 cases As a x<;>cases As b y<;>rfl
theorem uK(x y:S):∀(l:List (S×S)),vin (.tup [.str x,.str y]) (l.map nG)=some (l.any λp=>As p.1 x&&As p.2 y)
 |[]=>rfl
 |p::l=>by
  show(match veq (nG p) (.tup [.str x,.str y])with|some true=>some true|some false=>vin (.tup [.str x,.str y]) (l.map nG)|none=>none)=_
  unfold nG;rw[Hi,List.any_cons];cases h:(As p.1 x&&As p.2 y)with
  |true=>rfl
  |false=>exact uK x y l
noncomputable def bar(x y:S):Bool:=zb.any λp=>As p.1 x&&As p.2 y
noncomputable def Vk(x:S):Bool:=B3.any (As x)
theorem K3(g:G)(x:S):SI g 8 (.str x) (.tup (bT B3))=some (Vk x):=lG x B3
theorem Hj(g:G)(x y:S):SI g 8 (.tup [.str x,.str y]) (.tup (zb.map nG))=some (bar x y):=by
 have h2:(zb.map nG).all (vok 8)=true:=by rw[List.all_map];exact List.all_eq_true.mpr λ_ _=>rfl
 show grd (vok 8 (.tup [.str x,.str y])&&(zb.map nG).all (vok 8)) (vin (.tup [.str x,.str y]) (zb.map nG))=_;rw[h2];exact uK x y zb
noncomputable def mem(x:S)(L:List S):Bool:=L.any (As x)
theorem gh(g:G)(i:Nat)(x:S)(L:List S)(hg:g.get i=.list (bT L)):SI g 8 (.str x) (.ref i)=some (mem x L):=
 (xm hg).trans (lG x L)
noncomputable def S5(x y:S):Bool:=(As x y&&Vk x)||(bar x y||bar y x)
theorem B4{C:Cfg}{n:Nat}{l:Loc}{g:G}{a b:ME}{P:V->G->Prop}{Ψ:Prop}(q:((fs C n).e l g a).Al (λv g=>∃t,truthy g v=some t/\match t with|true=>P v g|false=>((fs C n).e l g b).Al P Ψ) Ψ):((fs C (n+1)).e l g (.or [a,b])).Al P Ψ:=by refine R.Al.bind.mpr (q.mono (λv g p=>?_) id);obtain⟨t,ht,p⟩:=p;rw[ht];cases t<;>first|exact bu p|exact p
theorem nH{C:Cfg}{n:Nat}{l:Loc}{g:G}{x:Nat}{v:V}{P:V->G->Prop}{Ψ:Prop}(h:aT C.gt x=some v)(p:P v g):((fs C (n+1)).e l g (.glob x)).Al P Ψ:=by show(opt (aT C.gt x) g).Al P Ψ;rw[h];exact bu p
theorem VV(g:G)(x y:S):SI g 0 (.str x) (.str y)=some (As x y):=by show veq (.str x) (.str y)=_;rfl
abbrev eV:Nat:=6840676
abbrev mu:Nat:=482854658917
abbrev mw:Nat:=478694368626
noncomputable def wH:List MS:=[.ifs (.and [.cmp 0 (.loc 478694368626) (.sub (.loc 6840676) (.loc 482854658917)),.cmp 8 (.loc 478694368626) (.glob 1760250341483019658085)]) [.ret (some (.bool true))] [],.ifs (.or [.cmp 8 (.tup [.loc 478694368626,.sub (.loc 6840676) (.loc 482854658917)]) (.glob 115359766379416827079058788),.cmp 8 (.tup [.sub (.loc 6840676) (.loc 482854658917),.loc 478694368626]) (.glob 115359766379416827079058788)]) [.ret (some (.bool true))] []]
section
variable{n:Nat}{g:G}{i:Nat}{k:Int}{y:S}{Φ:Fl->G->Prop}{Ψ:Prop}
theorem AQ{l:Loc}{x:S}(h1:aT l eV=some (.ref i))(h2:aT l mu=some (.int k))(h3:aT l mw=some (.str x))(hi:item g (.ref i) (.int k)=some (.str y))
  (hr:S5 x y=true->Φ (.ret (.bool true)) g) (hn:S5 x y=false->Φ (.next l) g):(blk (fs aA (n+20)) l g wH).Al Φ Ψ:=by
 have tr:∀(Φ':Fl->G->Prop),Φ' (.ret (.bool true)) g->(blk (fs aA (n+19)) l g [.ret (some (.bool true))]).Al Φ' Ψ:=λΦ' h=>bW (n:=n+18) (ao (v:=.bool true) (g:=g) (by kernel_rfl) h)
 have sec:(As x y&&Vk x)=false->(blk (fs aA (n+20)) l g (wH.drop 1)).Al Φ Ψ:=by
  intro e;refine b8 (n:=n+19) (bh (n:=n+19) (B4 (n:=n+18) (cD (n:=n+17) (iy (n:=n+16) (aI (aD (n:=n+15) h3 (aI (cK (n:=n+15) (aD (n:=n+14) h1 (aD (n:=n+14) h2 ⟨_,hi,c8 (nH (n:=n+16) Hh ⟨_,Hj g x y,_,aK _ _,?_⟩)⟩))))))))));cases e1:bar x y with
  |true=>exact⟨true,rfl,tr _ (hr (by unfold S5;rw[e1];simp))⟩
  |false=>
   refine cD (n:=n+17) (iy (n:=n+16) (aI (cK (n:=n+15) (aD (n:=n+14) h1 (aD (n:=n+14) h2 ⟨_,hi,aI (aD (n:=n+15) h3 (c8 (nH (n:=n+16) Hh ⟨_,Hj g y x,_,aK _ _,?_⟩)))⟩)))));cases e2:bar y x with
   |true=>exact tr _ (hr (by unfold S5;rw[e2];simp))
   |false=>exact all_nil (cV (n:=n+20) (hn (by unfold S5;rw[e,e1,e2];rfl)))
 refine b8 (n:=n+19) (bh (n:=n+19) (iO (n:=n+18) (cD (n:=n+17) (aD (n:=n+16) h3 (cK (n:=n+16) (aD (n:=n+15) h1 (aD (n:=n+15) h2 ⟨_,hi,_,VV g x y,_,aK _ _,?_⟩)))))));cases e0:As x y with
 |false=>exact⟨false,rfl,all_nil (IF (n:=n+20) (sec (by rw[e0];rfl)))⟩
 |true=>
  refine cD (n:=n+17) (aD (n:=n+16) h3 (nH (n:=n+16) K2 ⟨_,K3 g x,_,aK _ _,?_⟩));cases e1:Vk x with
  |true=>exact tr _ (hr (by unfold S5;rw[e0,e1];rfl))
  |false=>exact all_nil (IF (n:=n+20) (sec (by rw[e0,e1];rfl)))
theorem rO:∀(xs:List S)(l:Loc),aT l eV=some (.ref i)->aT l mu=some (.int k)->item g (.ref i) (.int k)=some (.str y)->
  (xs.any (λx=>S5 x y)=true->Φ (.ret (.bool true)) g)->(∀l',xs.any (λx=>S5 x y)=false->(∀z,z≠mw->aT l' z=aT l z)->Φ (.next l') g)->
  (loop (fs aA (n+20)) (λl v=>some (bY l 478694368626 v)) wH l g (bT xs)).Al Φ Ψ
 |[],l,h1,h2,hi,hr,hn=>aN (hn l rfl λ_ _=>rfl)
 |x::xs,l,h1,h2,hi,hr,hn=>by
  have w1:aT (bY l mw (.str x)) eV=some (.ref i):=by rw[aa _ _ (by decide),h1]
  have w2:aT (bY l mw (.str x)) mu=some (.int k):=by rw[aa _ _ (by decide),h2]
  have w3:=au l mw (.str x);refine aM (l1:=bY l mw (.str x)) rfl (AQ w1 w2 w3 hi (λe=>hr (by rw[List.any_cons,e];rfl)) λe=>?_)
  refine rO xs _ w1 w2 hi (λe'=>hr (by rw[List.any_cons,e,e'];rfl)) λl' e' hk=>hn l' (by rw[List.any_cons,e,e'];rfl) λz hz=>by rw[hk z hz,aa _ _ hz]
end
theorem rP{C:Cfg}{n:Nat}{l:Loc}{g:G}{a hi:ME}{P:V->G->Prop}{Ψ:Prop}(q:((fs C n).e l g a).Al (λx g=>((fs C n).e l g hi).Al (λy g=>∃v,slice g x .none y=some v/\P v g) Ψ) Ψ):((fs C (n+1)).e l g (.slice a none (some hi))).Al P Ψ:=by refine R.Al.bind.mpr (q.mono (λx g p=>R.Al.bind.mpr (bu (R.Al.bind.mpr (p.mono (λy g p=>?_) id)))) id);obtain⟨v,hv,p⟩:=p;rw[hv];exact bu p
theorem Ho{g:G}{i k:Nat}{L:List V}(hg:g.get i=.list L):slice g (.ref i) .none (.int (k:Nat))=some (.lst (L.take k)):=by
 show(SY g (.ref i)).bind (λl=>(bound 0 .none).bind λx=>(bound l.length (.int (k:Nat))).map λy=>V.lst (cut l x y))=_;have h1:SY g (.ref i)=some L:=by
  show(match g.get i with| .list l=>some l|_=>none)=_
  rw[hg]
 have h2:bound L.length (.int (k:Nat))=some k:=by
  show(match decide ((0:Int)<=(k:Nat))with|true=>some ((k:Nat):Int).toNat|false=>none)=_
  rw[decide_eq_true (Int.natCast_nonneg k)];rfl
 rw[h1];show(bound L.length (.int (k:Nat))).map (λy=>V.lst (cut L 0 y))=_;rw[h2];rfl
theorem NX{C:Cfg}{n:Nat}{l:Loc}{g:G}{x i:Nat}{L:List V}{P:V->G->Prop}{Ψ:Prop}(hx:aT l x=some (.ref i))(hg:g.get i=.list L)(p:P (.int (L.length:Nat)) g):((fs C (n+2)).e l g (.len (.loc x))).Al P Ψ:=by
 refine R.Al.bind.mpr (aD hx ?_);show(opt (((SY g (.ref i)).map List.length).map λ(k:Nat)=>V.int k) g).Al P Ψ;have h1:SY g (.ref i)=some L:=by
  show(match g.get i with| .list l=>some l|_=>none)=_
  rw[hg]
 rw[h1];exact bu p
theorem DX{C:Cfg}{n:Nat}{l:Loc}{g:G}{x:Nat}{hi:ME}{b r:List MS}{Φ:Fl->G->Prop}{Ψ:Prop}(q:((fs C n).e l g hi).Al (λv g=>∃k:Nat,v=.int (k:Nat)/\k<=100000/\(loop (fs C n) (λl v=>some (bY l x v)) b l g ((List.range' 0 k).map λi:Nat=>V.int (i:Nat))).Al (Tc C (n+1) r Φ Ψ) Ψ) Ψ):
  (blk (fs C (n+1)) l g (.forR x none hi b::r)).Al Φ Ψ:=by
 refine cy (C:=C) (n:=n+1) ?_;refine R.Al.bind.mpr (bu ?_);refine R.Al.bind.mpr (q.mono (λv g p=>?_) id);obtain⟨k,rfl,hk,p⟩:=p;show(match Nat.ble (0:Int).natAbs big,Nat.ble ((k:Nat):Int).natAbs big with
  |true,true=>loop (fs C n) (λl v=>some (bY l x v)) b l g (lP 0 (k:Nat))
  |_,_=>.st:R Fl).Al _ _
 rw[show Nat.ble ((k:Nat):Int).natAbs big=true from Nat.ble_eq_true_of_le (l8 hk rfl)];show R.Al (loop (fs C n) (λl v=>some (bY l x v)) b l g (lP 0 (k:Nat))) _ _;have e:lP 0 (k:Nat)=(List.range' 0 k).map λi:Nat=>V.int (i:Nat):=by unfold lP;rw[Int.sub_zero,Int.toNat_natCast,List.range_eq_range'];refine List.map_congr_left λi _=>?_;exact congrArg V.int (Int.zero_add _)
 rw[e];exact p
noncomputable def SQ:List S->List S->Bool
 |_,[]=>false
 |pre,y::r=>pre.any (λx=>S5 x y)||SQ (pre++[y]) r
noncomputable def NY:List MS:=[.gw 478694368626 (.slice (.loc 6840676) none (some (.loc 482854658917))) wH]
section
variable{n:Nat}{g:G}{i:Nat}{Φ:Fl->G->Prop}{Ψ:Prop}
theorem rQ{L:List S}(hg:g.get i=.list (bT L)):∀(suf pre:List S)(l:Loc),L=pre++suf->aT l eV=some (.ref i)->
  (SQ pre suf=true->Φ (.ret (.bool true)) g)->(∀l',SQ pre suf=false->(∀z,z≠mw->z≠mu->aT l' z=aT l z)->Φ (.next l') g)->
  (loop (fs aA (n+21)) (λl v=>some (bY l 482854658917 v)) NY l g ((List.range' pre.length suf.length).map λi:Nat=>V.int (i:Nat))).Al Φ Ψ
 |[],pre,l,hL,h1,hr,hn=>aN (hn l rfl λ_ _ _=>rfl)
 |y::suf,pre,l,hL,h1,hr,hn=>by
  have w1:aT (bY l mu (.int (pre.length:Nat))) eV=some (.ref i):=by rw[aa _ _ (by decide),h1]
  have w2:=au l mu (.int (pre.length:Nat));have hV:bT L=bT pre++.str y::bT suf:=by rw[hL];unfold bT;rw[List.map_append];rfl
  have hlen:(bT pre).length=pre.length:=by unfold bT;rw[List.length_map]
  have hi:item g (.ref i) (.int (pre.length:Nat))=some (.str y):=by have:=Uh (g:=g) (i:=i) hg hV;rwa [hlen]at this
  have htk:(bT L).take pre.length=bT pre:=by rw[hV,<- hlen,List.take_left]
  refine aM (l1:=bY l mu (.int (pre.length:Nat))) rfl ?_;refine gZ (n:=n+20) (rP (n:=n+19) (aD (n:=n+18) w1 (aD (n:=n+18) w2 ⟨_,Ho hg,⟨_,rfl,?_⟩⟩)));rw[htk];refine rO (n:=n) (y:=y) (k:=(pre.length:Nat)) pre _ w1 w2 hi (λe=>?_) (λl' e hk=>?_)
  ·exact hr (by show(pre.any _||SQ (pre++[y]) suf)=true;rw[e];rfl)
  ·refine cV (n:=n+21) ?_;have ih:=rQ hg suf (pre++[y]) l' (by rw[hL];simp) ((hk eV (by decide)).trans w1)
    (λe'=>hr (by show(pre.any _||SQ (pre++[y]) suf)=true;rw[e,e'];rfl))
    (λl'' e' hk'=>hn l'' (by show(pre.any _||SQ (pre++[y]) suf)=false;rw[e,e'];rfl) λz h1 h2=>by rw[hk' z h1 h2,hk z h1,aa _ _ h2])
   have hl1:(pre++[y]).length=pre.length+1:=by simp
   rw[hl1]at ih;exact ih
end
noncomputable def tK:List S->S->Nat
 |[],_=>0
 |y::r,x=>match As y x with
  |true=>0
  |false=>tK r x+1
theorem rR(x:S):∀(L:List S),mem x L=true->Td (bT L) (.str x)=some ((tK L x:Nat):Int)
 |[],h=>by cases h
 |y::L,h=>by
  show(match veq (.str y) (.str x)with|some true=>some 0|some false=>(Td (bT L) (.str x)).map (·+1)|none=>none)=some ((match As y x with|true=>0|false=>tK L x+1:Nat):Int)
  have h1:veq (.str y) (.str x)=some (As y x):=rfl;rw[h1];cases e:As y x with
  |true=>rfl
  |false=>
   have hm:mem x L=true:=by unfold mem at h ⊢;rw[List.any_cons,ur,e]at h;simpa using h
   show(Td (bT L) (.str x)).map (·+1)=_
   rw[rR x L hm];rfl
theorem NZ(g:G)(x:S)(L:List S):SI g 8 (.str x) (.lst (bT L))=some (mem x L):=lG x L
noncomputable def eW(L:List S):Bool:=mem bG L&&mem jX (L.drop (tK L bG))
noncomputable def N4:ME:=.and [.cmp 8 (.str aQ) (.loc 6840676),.cmp 8 (.str dD) (.slice (.loc 6840676) (some (.mcall (.loc 6840676) iz [.str aQ])) none)]
theorem Hp(L:List S):(bT L).all (vok 8)=true:=by unfold bT;rw[List.all_map];exact List.all_eq_true.mpr λ_ _=>rfl
theorem N5{n:Nat}{l:Loc}{g:G}{i:Nat}{L:List S}{P:Bool->G->Prop}{Ψ:Prop}(hg:g.get i=.list (bT L))(h1:aT l eV=some (.ref i))(hP:P (eW L) g):(tst (fs aA (n+20)) l g N4).Al P Ψ:=by
 refine bh (n:=n+20) (iO (n:=n+19) (cD (n:=n+18) (ao (v:=.str bG) (g:=g) (by kernel_rfl) (aD (n:=n+17) h1 ⟨_,gh g i bG L hg,_,aK _ _,?_⟩))))
 unfold eW at hP;cases e:mem bG L with
 |false=>rw[e]at hP;exact⟨false,rfl,hP⟩
 |true=>
  rw[e]at hP;refine cD (n:=n+18) (ao (v:=.str jX) (g:=g) (by kernel_rfl) (oM (n:=n+17) (aD (n:=n+16) h1 ?_)))
  refine lM (n:=n+16) (aD (n:=n+15) h1 ⟨.idx,?_,?_⟩)
  ·show(match g.get i with
    | .list _=>match As iz lq with
     |true=>some Lk.app
     |false=>match As iz vf with
      |true=>some .idx
      |false=>none
    | .dict _ _=>match As iz EO with
     |true=>some .get
     |false=>none
    |_=>none)=some .idx
   rw[hg];rfl
  ·refine aI (ao (v:=.str bG) (g:=g) (by kernel_rfl) (c8 ?_))
   show(match g.get i with
    | .list l=>match vok 8 (.str bG),l.all (vok 8)with
     |true,true=>opt ((Td l (.str bG)).map .int) g
     |_,_=>.st
    |_=>.st:R V).Al _ _
   rw[hg];show(match vok 8 (.str bG),(bT L).all (vok 8)with
     |true,true=>opt ((Td (bT L) (.str bG)).map V.int) g
     |_,_=>.st:R V).Al _ _
   rw[Hp,rR bG L e];refine bu ⟨_,yS hg,?_⟩;have hd:(bT L).drop (tK L bG)=bT (L.drop (tK L bG)):=by unfold bT;rw[List.map_drop]
   rw[hd];exact⟨_,NZ g jX _,_,aK _ _,hP⟩
theorem zc{C:Cfg}{n:Nat}{l:Loc}{g:G}{a b c:ME}{P:V->G->Prop}{Ψ:Prop} (q:((fs C n).e l g a).Al (λv g=>∃t,truthy g v=some t/\match t with
  |true=>((fs C n).e l g b).Al (λv g=>∃t,truthy g v=some t/\match t with|true=>((fs C n).e l g c).Al P Ψ|false=>P v g) Ψ
  |false=>P v g) Ψ):((fs C (n+1)).e l g (.and [a,b,c])).Al P Ψ:=by
 refine R.Al.bind.mpr (q.mono (λv g p=>?_) id);obtain⟨t,ht,p⟩:=p;rw[ht];cases t with
 |false=>exact bu p
 |true=>refine R.Al.bind.mpr (p.mono (λv g p=>?_) id);obtain⟨t,ht,p⟩:=p;rw[ht];cases t<;>first|exact bu p|exact p
theorem nK{C:Cfg}{n:Nat}{l:Loc}{g:G}{a:ME}{P:V->G->Prop}{Ψ:Prop}(q:(tst (fs C n) l g a).Al (λt g=>P (.bool (!t)) g) Ψ):((fs C (n+1)).e l g (.not a)).Al P Ψ:=R.Al.bind.mpr (q.mono (λ_ _ p=>bu p) id)
theorem pG:∀(L:List S),Tz (bT L)=some L
 |[]=>rfl
 |x::L=>by
  show(Tz (bT L)).map (x::·)=_
  rw[pG L];rfl
theorem zd{C:Cfg}{n:Nat}{l:Loc}{g:G}{x y i:Nat}{cs:List S}{L:List S}{P:V->G->Prop}{Ψ:Prop}(h1:aT l y=some (.ref i))(hg:g.get i=.list (bT L))(p:P (.lst (bT (L.filter λs=>cs.any (As s)))) g):((fs C (n+2)).e l g (.filt x (.loc y) cs)).Al P Ψ:=by
 refine R.Al.bind.mpr (aD h1 ?_);have h2:(SY g (.ref i)).bind Tz=some L:=by
  show(match g.get i with| .list l=>some l|_=>none).bind Tz=_
  rw[hg];exact pG L
 rw[h2];exact bu p
abbrev Hq:Nat:=1684630899
abbrev qh:Nat:=119182899770472
abbrev K4:Nat:=7598521881375632761
noncomputable def wI(d:Dm)(b:Bool):Bool:=match b with
 |true=>false
 |false=>match d with
  | .d2=>true
  |_=>false
noncomputable def V9:ME:=.and [.not (.loc 7598521881375632761),.cmp 1 (.loc 1684630899) (.lst 0 []),.cmp 6 (.sub (.sub (.loc 1684630899) (.neg (.int 1))) (.int 1)) (.none)]
theorem Hr(g:G)(n:Nat)(d:Dm)(b:Bool):(fs aA (n+20)).e [(Hq,d.v),(K4,.bool b)] g V9=.ok (.bool (wI d b)) g:=by cases b<;>cases d<;>kernel_rfl
noncomputable def DY:List S:=[aQ,bf,aV,aP,cR,bw,aW]
noncomputable def Un(L:List S)(k:Kl)(b:Bool):Bool:=match b with
 |true=>false
 |false=>match k with
  | .cs=>(L.filter λs=>DY.any (As s)).isEmpty
  |_=>false
noncomputable def Wa:ME:=.and [.not (.loc 7598521881375632761),.cmp 0 (.loc 119182899770472) (.str [42]),.not (.filt 1717658484 (.loc 6840676) DY)]
theorem N6(g:G)(n:Nat)(k:Kl):(fs aA (n+20)).e [(qh,k.told)] g (.cmp 0 (.loc 119182899770472) (.str [42]))=.ok (.bool (decide (k=.cs))) g:=by cases k<;>kernel_rfl
theorem DZ{n:Nat}{l:Loc}{g:G}{i:Nat}{L:List S}{k:Kl}{b:Bool}{P:V->G->Prop}{Ψ:Prop}(hg:g.get i=.list (bT L))(h1:aT l eV=some (.ref i))(h2:aT l qh=some k.told)(h3:aT l K4=some (.bool b))(hP:P (.bool (Un L k b)) g):((fs aA (n+22)).e l g Wa).Al P Ψ:=by
 refine zc (n:=n+21) (nK (n:=n+20) (bh (n:=n+20) (aD (n:=n+19) h3 ⟨b,rfl,!b,rfl,?_⟩)));cases b with
 |true=>exact hP
 |false=>
  refine aG (aq h2 (dO _)) (ao (N6 g (n+1) k) ⟨_,aK _ _,?_⟩);by_cases e:k=.cs
  ·subst e;refine nK (n:=n+20) (bh (n:=n+20) (zd (n:=n+18) h1 hg ?_));have hP:P (.bool (L.filter λs=>DY.any (As s)).isEmpty) g:=hP;cases hf:(L.filter λs=>DY.any (As s))with
   |nil=>rw[hf]at hP;exact⟨false,rfl,hP⟩
   |cons y r=>rw[hf]at hP;exact⟨true,rfl,hP⟩
  ·rw[decide_eq_false e];have:Un L k false=false:=by cases k<;>first|rfl|exact absurd rfl e
   rw[this]at hP;exact hP
noncomputable def kO(L:List S)(d:Dm)(k:Kl)(b:Bool):Bool:=SQ [] L||(eW L||(wI d b||Un L k b))
theorem D0{n i:Nat}{g:G}{L:List S}{d:Dm}{k:Kl}{b:Bool}{P:V->G->Prop}{Ψ:Prop}(hg:g.get i=.list (bT L))(hlen:L.length<=1000)(hP:P (.bool (kO L d k b)) g):
  ((fs aA (n+40)).c g (.fn 908) [.ref i,d.v,k.told,.bool b]).Al P Ψ:=by
 have hl:(bT L).length=L.length:=by unfold bT;rw[List.length_map]
 refine dU (n:=n+39) (l:=[(6840676,.ref i),(1684630899,d.v),(119182899770472,k.told),(7598521881375632761,.bool b)]) rfl rfl rfl ?_;refine DX (n:=n+38) (NX (n:=n+36) rfl hg ⟨(bT L).length,rfl,Jb hl hlen rfl,?_⟩);rw[hl];unfold kO at hP;have tr:∀(Φ':Fl->G->Prop)(l:Loc),Φ' (.ret (.bool true)) g->(blk (fs aA (n+38)) l g [.ret (some (.bool true))]).Al Φ' Ψ:=λΦ' l h=>bW (n:=n+37) (ao (v:=.bool true) (g:=g) (by kernel_rfl) h)
 refine rQ (n:=n+17) hg L [] _ rfl rfl (λe=>?_) (λl e hk=>?_)
 ·rw[e]at hP;exact hP
 ·rw[e]at hP;have h1:aT l eV=some (.ref i):=hk eV (by decide) (by decide)
  have h2:aT l Hq=some d.v:=hk Hq (by decide) (by decide)
  have h3:aT l qh=some k.told:=hk qh (by decide) (by decide)
  have h4:aT l K4=some (.bool b):=hk K4 (by decide) (by decide)
  refine IF (n:=n+39) (b8 (n:=n+38) (N5 (n:=n+18) hg h1 ?_));cases e1:eW L with
  |true=>rw[e1]at hP;exact tr _ l hP
  |false=>
   rw[e1]at hP;refine all_nil (IF (n:=n+39) (b8 (n:=n+38) (bh (n:=n+38) (aG (aq h2 (aq h4 (dO _))) (ao (Hr g (n+18) d b) ⟨_,aK _ _,?_⟩)))));cases e2:wI d b with
   |true=>rw[e2]at hP;exact tr _ l hP
   |false=>rw[e2]at hP;refine all_nil (IF (n:=n+39) (bW (n:=n+38) (DZ (n:=n+16) hg h1 h3 h4 hP)))
theorem pH(g:G)(i:Nat)(x:S)(L:List S)(hg:g.get i=.list (bT L)):SI g 9 (.str x) (.ref i)=some (!mem x L):=by
 show(SI g 8 (.str x) (.ref i)).map (!·)=_
 rw[gh g i x L hg];rfl
noncomputable def oU(n:Nm)(L:List S):Us:=match mem jY L with
 |true=>.array
 |false=>match mem bG L with
  |true=>.param
  |false=>match mem jS L with
   |true=>.aU
   |false=>match mem bQ L with
    |true=>.intr
    |false=>match mem lK L with
     |true=>.sub
     |false=>match mem gO L with
      |true=>match n.isI&&(!mem cC L&&!mem d7 L)with
       |true=>.intr
       |false=>.func
      |false=>match mem cC L with
       |true=>.proc
       |false=>.var
abbrev uL:Nat:=1717658484
abbrev Hs:Nat:=7697253
noncomputable def PK:List MS:=[.ifs (.cmp 8 (.loc 1717658484) (.loc 6840676)) [.ret (some (.loc 7697253))] []]
section
variable{n i:Nat}{g:G}{L:List S}{Φ:Fl->G->Prop}{Ψ:Prop}
theorem kP(hg:g.get i=.list (bT L)){l:Loc}{w u:S}{vs:List V}(h1:aT l eV=some (.ref i))(ht:mem w L=true->Φ (.ret (.str u)) g)
  (hf:mem w L=false->(loop (fs aA (n+20)) (λl v=>SK l [1717658484,7697253] v) PK (bY (bY l uL (.str w)) Hs (.str u)) g vs).Al Φ Ψ):
  (loop (fs aA (n+20)) (λl v=>SK l [1717658484,7697253] v) PK l g (.tup [.str w,.str u]::vs)).Al Φ Ψ:=by
 have w1:aT (bY (bY l uL (.str w)) Hs (.str u)) eV=some (.ref i):=by rw[aa _ _ (by decide),aa _ _ (by decide),h1]
 have w2:aT (bY (bY l uL (.str w)) Hs (.str u)) uL=some (.str w):=by rw[aa _ _ (by decide),au]
 have w3:=au (bY l uL (.str w)) Hs (.str u);refine aM (l1:=bY (bY l uL (.str w)) Hs (.str u)) rfl (b8 (n:=n+19) (bh (n:=n+19) (cD (n:=n+18) (aD (n:=n+17) w2 (aD (n:=n+17) w1 ⟨_,gh g i w L hg,_,aK _ _,?_⟩)))));cases e:mem w L with
 |true=>exact bW (n:=n+18) (aD (n:=n+17) w3 (ht e))
 |false=>exact all_nil (cV (n:=n+20) (hf e))
end
theorem K5{n i:Nat}{g:G}{L:List S}{nm:Nm}{P:V->G->Prop}{Ψ:Prop}(hg:g.get i=.list (bT L))(hP:P (.str (oU nm L).s) g):
  ((fs aA (n+30)).c g (.fn 915) [.str nm.str,.ref i]).Al P Ψ:=by
 refine dU (n:=n+29) (l:=[(1851878757,.str nm.str),(6840676,.ref i)]) rfl rfl rfl ?_;unfold oU at hP;refine gc (n:=n+28) (ao (v:=.tup [.tup [.str jY,.str Us.array.s],.tup [.str bG,.str Us.param.s],.tup [.str jS,.str Us.aU.s],.tup [.str bQ,.str Us.intr.s],.tup [.str lK,.str Us.sub.s]]) (g:=g) (by kernel_rfl) ⟨_,rfl,?_⟩)
 refine kP (n:=n+8) hg rfl (λe=>by rw[e]at hP;exact hP) λe1=>?_
 rw[e1]at hP;refine kP (n:=n+8) hg rfl (λe=>by dsimp only at hP;rw[e]at hP;exact hP) λe2=>?_
 dsimp only at hP;rw[e2]at hP;refine kP (n:=n+8) hg rfl (λe=>by dsimp only at hP;rw[e]at hP;exact hP) λe3=>?_
 dsimp only at hP;rw[e3]at hP;refine kP (n:=n+8) hg rfl (λe=>by dsimp only at hP;rw[e]at hP;exact hP) λe4=>?_
 dsimp only at hP;rw[e4]at hP;refine kP (n:=n+8) hg rfl (λe=>by dsimp only at hP;rw[e]at hP;exact hP) λe5=>?_
 dsimp only at hP;rw[e5]at hP;refine aN (IF (n:=n+29) ?_);refine b8 (n:=n+28) (bh (n:=n+28) (cD (n:=n+27) (ao (v:=.str gO) (g:=g) (by kernel_rfl) (aD (n:=n+26) (v:=.ref i) rfl ⟨_,gh g i gO L hg,_,aK _ _,?_⟩))))
 dsimp only at hP;cases e6:mem gO L with
 |true=>
  rw[e6]at hP;refine bW (n:=n+27) (wD (n:=n+26) (bh (n:=n+26) (zc (n:=n+25) ?_)));have hi:(fs aA (n+25)).e [(iF,.str nm.str)] g (.call (.glob 32470887554995256498048238874947382110563) [.loc 1851878757])=.ok (.bool nm.isI) g:=by cases nm<;>kernel_rfl
  refine aG (aq (x:=iF) (v:=.str nm.str) rfl (dO _)) (ao hi ⟨_,aK _ _,?_⟩);dsimp only at hP;cases e7:nm.isI with
  |false=>rw[e7]at hP;exact⟨false,rfl,ao (v:=.str Us.func.s) (g:=g) (by kernel_rfl) hP⟩
  |true=>
   rw[e7]at hP;refine cD (n:=n+24) (ao (v:=.str cC) (g:=g) (by kernel_rfl) (aD (n:=n+23) (v:=.ref i) rfl ⟨_,pH g i cC L hg,_,aK _ _,?_⟩))
   cases e8:mem cC L with
   |true=>rw[e8]at hP;exact⟨false,rfl,ao (v:=.str Us.func.s) (g:=g) (by kernel_rfl) hP⟩
   |false=>
    rw[e8]at hP;refine cD (n:=n+24) (ao (v:=.str d7) (g:=g) (by kernel_rfl) (aD (n:=n+23) (v:=.ref i) rfl ⟨_,pH g i d7 L hg,_,aK _ _,?_⟩))
    cases e9:mem d7 L with
    |true=>rw[e9]at hP;exact ao (v:=.str Us.func.s) (g:=g) (by kernel_rfl) hP
    |false=>rw[e9]at hP;exact ao (v:=.str Us.intr.s) (g:=g) (by kernel_rfl) hP
 |false=>
  rw[e6]at hP;refine all_nil (IF (n:=n+29) (bW (n:=n+28) (wD (n:=n+27) (bh (n:=n+27) (cD (n:=n+26) (ao (v:=.str cC) (g:=g) (by kernel_rfl) (aD (n:=n+25) (v:=.ref i) rfl ⟨_,gh g i cC L hg,_,aK _ _,?_⟩)))))))
  dsimp only at hP;cases e7:mem cC L with
  |true=>rw[e7]at hP;exact ao (v:=.str Us.proc.s) (g:=g) (by kernel_rfl) hP
  |false=>rw[e7]at hP;exact ao (v:=.str Us.var.s) (g:=g) (by kernel_rfl) hP
noncomputable def PL(n:Nm)(imp:Bool):Kl:=match n with
 | .c=>match imp with
  |true=>.c3
  |false=>.k1
 | .i=>.k0
 | .j=>.k0
 |_=>.k1
noncomputable def SD(n:Nm)(imp:Bool):Option Kl->Kl
 |some k=>k
 |none=>PL n imp
noncomputable def Tn:Option Dm->Dm
 |some d=>d
 |none=>.d0
noncomputable def Vm:Option Cm->V
 |some c=>c.v
 |none=>.none
noncomputable def MA:ME:=.mcall (.loc 1953459300) dJ [.loc 1851878757,.mcall (.loc 119183001281906) dJ [.sub (.loc 1851878757) (.int 0),.tup [.ite (.Bc 3 3 (.str [73]) (.sub (.loc 1851878757) (.int 0)) (.str [78])) (.int 0) (.int 1),.none]]]
theorem Ht(h:Hl)(imp:Bool)(s:LS)(left n:Nat)(nm:Nm):(fs aA (n+30)).e [(gC,.ref 12),(iF,.str nm.str),(fF,.ref 13)] (aH h imp s left []) MA=.ok (.tup [(SD nm imp (s.get nm).ty).kind,(SD nm imp (s.get nm).ty).told]) (aH h imp s left []):=by
 obtain⟨⟨afa,aty,adm,acm⟩,⟨bfa,bty,bdm,bcm⟩,⟨cfa,cty,cdm,ccm⟩,⟨ifa,ity,idm,icm⟩,⟨sfa,sty,sdm,scm⟩,⟨jfa,jty,jdm,jcm⟩,od⟩:=s;cases nm with
 |a=>cases imp<;>cases aty<;>kernel_rfl
 |b=>cases imp<;>cases bty<;>kernel_rfl
 |c=>cases imp<;>cases cty<;>kernel_rfl
 |i=>cases imp<;>cases ity<;>kernel_rfl
 |s=>cases imp<;>cases sty<;>kernel_rfl
 |j=>cases imp<;>cases jty<;>kernel_rfl
theorem Hu(h:Hl)(imp:Bool)(s:LS)(left n:Nat)(nm:Nm):(fs aA (n+30)).e [(gC,.ref 12),(iF,.str nm.str)] (aH h imp s left []) (.mcall (.loc 1953459300) dJ [.bin 0 (.loc 1851878757) (.str [40,41]),.lst 0 []])=.ok (Tn (s.get nm).dm).v (aH h imp s left []):=by
 obtain⟨⟨afa,aty,adm,acm⟩,⟨bfa,bty,bdm,bcm⟩,⟨cfa,cty,cdm,ccm⟩,⟨ifa,ity,idm,icm⟩,⟨sfa,sty,sdm,scm⟩,⟨jfa,jty,jdm,jcm⟩,od⟩:=s;cases nm with
 |a=>cases adm<;>kernel_rfl
 |b=>cases bdm<;>kernel_rfl
 |c=>cases cdm<;>kernel_rfl
 |i=>cases idm<;>kernel_rfl
 |s=>cases sdm<;>kernel_rfl
 |j=>cases jdm<;>kernel_rfl
theorem Hv(h:Hl)(imp:Bool)(s:LS)(left n:Nat)(nm:Nm):(fs aA (n+30)).e [(gC,.ref 12),(iF,.str nm.str)] (aH h imp s left []) (.mcall (.loc 1953459300) dJ [.bin 0 (.loc 1851878757) (.str [47])])=.ok (Vm (s.get nm).cm) (aH h imp s left []):=by
 obtain⟨⟨afa,aty,adm,acm⟩,⟨bfa,bty,bdm,bcm⟩,⟨cfa,cty,cdm,ccm⟩,⟨ifa,ity,idm,icm⟩,⟨sfa,sty,sdm,scm⟩,⟨jfa,jty,jdm,jcm⟩,od⟩:=s;cases nm with
 |a=>cases acm<;>kernel_rfl
 |b=>cases bcm<;>kernel_rfl
 |c=>cases ccm<;>kernel_rfl
 |i=>cases icm<;>kernel_rfl
 |s=>cases scm<;>kernel_rfl
 |j=>cases jcm<;>kernel_rfl
noncomputable def MB:ME:=.sub (.mcall (.loc 1953459300) dJ [.loc 1851878757,.mcall (.loc 119183001281906) dJ [.sub (.loc 1851878757) (.int 0),.tup [.int 0,.none]]]) (.int 1)
theorem K6(h:Hl)(imp:Bool)(s:LS)(left n:Nat)(nm:Nm):(fs aA (n+30)).e [(gC,.ref 12),(iF,.str nm.str),(fF,.ref 13)] (aH h imp s left []) MB=.ok (SD nm imp (s.get nm).ty).told (aH h imp s left []):=by
 obtain⟨⟨afa,aty,adm,acm⟩,⟨bfa,bty,bdm,bcm⟩,⟨cfa,cty,cdm,ccm⟩,⟨ifa,ity,idm,icm⟩,⟨sfa,sty,sdm,scm⟩,⟨jfa,jty,jdm,jcm⟩,od⟩:=s;cases nm with
 |a=>cases imp<;>cases aty<;>kernel_rfl
 |b=>cases imp<;>cases bty<;>kernel_rfl
 |c=>cases imp<;>cases cty<;>kernel_rfl
 |i=>cases imp<;>cases ity<;>kernel_rfl
 |s=>cases imp<;>cases sty<;>kernel_rfl
 |j=>cases imp<;>cases jty<;>kernel_rfl
abbrev rS:Nat:=1936292453
abbrev oV:Nat:=508440638821
noncomputable def Wj:MS:=.ifs (.cmp 0 (.loc 1802071652) (.int 5)) [.asg 119182899770472 (.ite (.cmp 6 (.loc 1936292453) (.none)) (.int 1) (.ite (.cmp 0 (.loc 1936292453) (.str [42])) (.none) (.sub (.loc 1936292453) (.int 1))))] []
noncomputable def Wk:MS:=.ifs (.cmp 0 (.loc 7697253) (.str aQ)) [.asg 508440638821 (.tup [.loc 1802071652,.ite (.cmp 2 (.loc 1802071652) (.int 4)) (.sub (.tup [.int 7,.tup [.int 7,.int 0],.tup [.int 7,.int 0],.tup [.tup [.int 7,.int 0],.tup [.int 0,.int 0]]]) (.loc 1802071652)) (.none)])] []
noncomputable def TY:Us->Kl->V
 | .param,.k0=>Vl.p0.v
 | .param,.k1=>Vl.p1.v
 | .param,.k2=>Vl.p2.v
 | .param,.k3=>Vl.p3.v
 | .param,k=>.tup [k.kind,.none]
 |_,_=>.none
noncomputable def K7(nm:Nm)(i:Nat)(k:Kl)(len:V):Loc:=[(1851878757,.str nm.str),(6840676,.ref i),(1953459300,.ref 12),(119183001281906,.ref 13),(1802071652,k.kind),(1936292453,k.told),(119182899770472,len)]
theorem K8(g:G)(n i:Nat)(nm:Nm)(k:Kl):(fs aA (n+20)).s (K7 nm i k (.int 0)) g Wj=.ok (.next (K7 nm i k k.len)) g:=by cases k<;>kernel_rfl
theorem K9(g:G)(n i:Nat)(nm:Nm)(k:Kl)(u:Us):(fs aA (n+20)).s (K7 nm i k k.len++[(7697253,.str u.s),(508440638821,.none)]) g Wk=.ok (.next (K7 nm i k k.len++[(7697253,.str u.s),(508440638821,TY u k)])) g:=by cases u<;>cases k<;>kernel_rfl
noncomputable def To(nm:Nm)(imp:Bool)(x:LN)(L:List S):V:=match SD nm imp x.ty,oU nm L with
 |k,u=>.lst [k.kind,k.len,(Tn x.dm).v,.str u.s,.bool (mem d7 L),TY u k,Vm x.cm,.bool (mem pq L)]
theorem B5{C:Cfg}{n:Nat}{l l':Loc}{g g':G}{s:MS}{r:List MS}{Φ:Fl->G->Prop}{Ψ:Prop}(h:(fs C n).s l g s=.ok (.next l') g')(q:(blk (fs C n) l' g' r).Al Φ Ψ):(blk (fs C n) l g (s::r)).Al Φ Ψ:=by refine cy ?_;rw[h];exact bu (IF q)
theorem La(h:Hl)(imp:Bool)(s:LS)(left n i:Nat)(nm:Nm)(L:List S){P:V->G->Prop}{Ψ:Prop}(hg:(aH h imp s left []).get i=.list (bT L))(hP:P (To nm imp (s.get nm) L) (aH h imp s left [])):
  ((fs aA (n+50)).c (aH h imp s left []) (.fn 922) [.str nm.str,.ref i,.ref 12,.ref 13]).Al P Ψ:=by
 refine dU (n:=n+49) (l:=[(1851878757,.str nm.str),(6840676,.ref i),(1953459300,.ref 12),(119183001281906,.ref 13)]) rfl rfl rfl ?_;have e1:((fs aA (n+48)).e [(1851878757,.str nm.str),(6840676,.ref i),(1953459300,.ref 12),(119183001281906,.ref 13)] (aH h imp s left []) MA).Al (λv g=>v=.tup [(SD nm imp (s.get nm).ty).kind,(SD nm imp (s.get nm).ty).told]/\g=aH h imp s left []) Ψ:=
  aG (aq (x:=gC) rfl (aq (x:=iF) rfl (aq (x:=fF) rfl (dO _)))) (ao (Ht h imp s left (n+18) nm) ⟨rfl,rfl⟩)
 unfold To at hP;generalize hk:SD nm imp (s.get nm).ty=k at e1 hP;refine cy (C:=aA) (n:=n+49) (R.Al.bind.mpr (e1.mono (λv g p=>?_) id));obtain⟨rfl,rfl⟩:=p;refine bu (IF (n:=n+49) (l:=[(1851878757,.str nm.str),(6840676,.ref i),(1953459300,.ref 12),(119183001281906,.ref 13),(1802071652,k.kind),(1936292453,k.told)]) ?_);refine aZ (n:=n+48) (ao (v:=.int 0) (g:=aH h imp s left []) (by kernel_rfl) ?_)
 refine B5 (n:=n+49) (K8 (aH h imp s left []) (n+29) i nm k) ?_;refine aZ (n:=n+48) (SM (y:=(fs aA (n+17+30)).c (aH h imp s left []) (.fn 915) [.str nm.str,.ref i]) (by kernel_rfl) (K5 hg ?_))
 generalize hu:oU nm L=u at hP;refine aZ (n:=n+48) (ao (v:=.none) (g:=aH h imp s left []) (by kernel_rfl) ?_)
 refine B5 (n:=n+49) (K9 (aH h imp s left []) (n+29) i nm k u) ?_;refine bW (n:=n+48) (BZ (n:=n+47) ?_);refine aI (aD (n:=n+46) (v:=k.kind) rfl (aI (aD (n:=n+46) (v:=k.len) rfl ?_)));refine aI (aG (aq (x:=gC) rfl (aq (x:=iF) rfl (dO _))) (ao (Hu h imp s left (n+17) nm) ?_));refine aI (aD (n:=n+46) (v:=.str u.s) rfl ?_);refine aI (cD (n:=n+46) (ao (v:=.str d7) (g:=aH h imp s left []) (by kernel_rfl) (aD (n:=n+45) (v:=.ref i) rfl ⟨_,gh _ i d7 L hg,?_⟩)))
 refine aI (aD (n:=n+46) (v:=TY u k) rfl ?_);refine aI (aG (aq (x:=gC) rfl (aq (x:=iF) rfl (dO _))) (ao (Hv h imp s left (n+17) nm) ?_));refine aI (cD (n:=n+46) (ao (v:=.str pq) (g:=aH h imp s left []) (by kernel_rfl) (aD (n:=n+45) (v:=.ref i) rfl ⟨_,gh _ i pq L hg,c8 hP⟩)))
noncomputable def Nm.fi:Nm->Nat
 | .a=>100| .b=>101| .c=>102| .i=>103| .s=>104| .j=>105
theorem Hw(h:Hl)(imp:Bool)(s:LS)(left:Nat)(lk:List Nat)(nm:Nm):(aH h imp s left lk).get nm.fi=.list (s.get nm).f:=by cases nm<;>rfl
theorem ze(h:Hl)(imp:Bool)(s:LS)(left n:Nat)(nm:Nm):(fs aA (n+20)).e [(eV,.ref nm.fi)] (aH h imp s (left+1) []) (.mcall (.loc 6840676) aF [.str cR])=.ok .none (aH h imp (s.app nm gO) left []):=by cases nm<;>kernel_rfl
noncomputable def Lb:List S:=[bL,bf,aP]
noncomputable def IS(L:List S):Bool:=mem g5 L&&(L.filter λs=>Lb.any (As s)).isEmpty
noncomputable def SA(L:List S):List S:=match IS L with
 |true=>L++[gO]
 |false=>L
noncomputable def Hx:MS:=.ifs (.and [.cmp 8 (.str bU) (.loc 6840676),.not (.filt 1717658484 (.loc 6840676) Lb)]) [.expr (.mcall (.loc 6840676) aF [.str cR])] []
theorem D3{h:Hl}{imp:Bool}{s:LS}{left n:Nat}{nm:Nm}{L:List S}{l:Loc}{r:List MS}{Φ:Fl->G->Prop}{Ψ:Prop}(hf:(s.get nm).f=bT L)(h1:aT l eV=some (.ref nm.fi))
  (q:∀s' left',left<=left'->(s'.get nm).f=bT (SA L)->s'=(match IS L with|true=>s.app nm gO|false=>s)->(blk (fs aA (n+25)) l (aH h imp s' left' []) r).Al Φ Ψ):(blk (fs aA (n+25)) l (aH h imp s (left+1) []) (Hx::r)).Al Φ Ψ:=by
 have hg:(aH h imp s (left+1) []).get nm.fi=.list (bT L):=by rw[Hw,hf]
 have no:IS L=false->(blk (fs aA (n+24)) l (aH h imp s (left+1) []) []).Al (Tc aA (n+25) r Φ Ψ) Ψ:=λe=>all_nil (IF (n:=n+25) (q s (left+1) (Nat.le_succ _) (by unfold SA;rw[e];exact hf) (by rw[e])))
 refine b8 (n:=n+24) (bh (n:=n+24) (iO (n:=n+23) (cD (n:=n+22) (ao (v:=.str g5) (g:=aH h imp s (left+1) []) (by kernel_rfl) (aD (n:=n+21) h1 ⟨_,gh _ _ g5 L hg,_,aK _ _,?_⟩)))))
 cases e1:mem g5 L with
 |false=>exact⟨false,rfl,no (by unfold IS;rw[e1];rfl)⟩
 |true=>
  refine nK (n:=n+22) (bh (n:=n+22) (zd (n:=n+20) h1 hg ?_));cases hx:(L.filter λs=>Lb.any (As s))with
  |cons y ys=>exact⟨true,rfl,false,rfl,no (by unfold IS;rw[e1,hx];rfl)⟩
  |nil=>
   have e:IS L=true:=by unfold IS;rw[e1,hx];rfl
   refine⟨false,rfl,true,rfl,?_⟩;refine bJ (n:=n+23) (aG (aq h1 (dO _)) (ao (ze h imp s left (n+3) nm) (all_nil (IF (n:=n+25) (q _ left (Nat.le_refl _) ?_ (by rw[e]))))))
   have:((s.app nm gO).get nm).f=(s.get nm).f++[.str gO]:=by cases nm<;>rfl
   rw[this,hf];unfold SA;rw[e];unfold bT;rw[List.map_append];rfl
abbrev mz:Nat:=7499639
abbrev gi:Nat:=29681726149062500
noncomputable def TZ(u:Us)(k:Kl):Bool:=match u with
 | .param=>match k with
  | .k0=>false| .k1=>false| .k2=>false| .k3=>false|_=>true
 |_=>false
noncomputable def Wb:ME:=.and [.cmp 0 (.sub (.loc 7499639) (.int 3)) (.str aQ),.cmp 4 (.sub (.loc 7499639) (.int 0)) (.int 3)]
theorem Lc(g:G)(n:Nat)(k:Kl)(u:Us)(a b c d e f:V):(fs aA (n+20)).e [(mz,.lst [k.kind,a,b,.str u.s,c,d,e,f])] g Wb=.ok (.bool (TZ u k)) g:=by cases u<;>cases k<;>kernel_rfl
noncomputable def N7:ME:=.call (.glob 450624087419601459180392) [.loc 6840676,.sub (.loc 7499639) (.int 2),.loc 1936292453,.sub (.loc 7499639) (.int 4)]
noncomputable def MC:MS:=.ifs (.or [N7,Wb]) [.asg 29681726149062500 (.bool false)] []
noncomputable def SG(nm:Nm)(imp:Bool)(x:LN)(L:List S):Bool:=kO L (Tn x.dm) (SD nm imp x.ty) (mem d7 L)||TZ (oU nm L) (SD nm imp x.ty)
theorem Hy{g:G}{n:Nat}{nm:Nm}{imp:Bool}{x:LN}{L:List S}{l:Loc}{i:Nat}{r:List MS}{Φ:Fl->G->Prop}{Ψ:Prop}(hg:g.get i=.list (bT L))(hlen:L.length<=1000)(h1:aT l eV=some (.ref i))(h2:aT l mz=some (To nm imp x L))(h3:aT l rS=some (SD nm imp x.ty).told)
  (q:(blk (fs aA (n+50)) (match SG nm imp x L with|true=>bY l gi (.bool false)|false=>l) g r).Al Φ Ψ):(blk (fs aA (n+50)) l g (MC::r)).Al Φ Ψ:=by
 have yes:SG nm imp x L=true->(blk (fs aA (n+49)) l g [.asg 29681726149062500 (.bool false)]).Al (Tc aA (n+50) r Φ Ψ) Ψ:=λe=>aZ (n:=n+48) (ao (v:=.bool false) (g:=g) (by kernel_rfl) (all_nil (IF (n:=n+50) (by rw[e]at q;exact q))))
 have no:SG nm imp x L=false->(blk (fs aA (n+49)) l g []).Al (Tc aA (n+50) r Φ Ψ) Ψ:=λe=>all_nil (IF (n:=n+50) (by rw[e]at q;exact q))
 refine b8 (n:=n+49) (bh (n:=n+49) (B4 (n:=n+48) (aG (aq h1 (aq h2 (aq h3 (dO _)))) (SM (y:=(fs aA (n+7+40)).c g (.fn 908) [.ref i,(Tn x.dm).v,(SD nm imp x.ty).told,.bool (mem d7 L)]) (by kernel_rfl) (D0 hg hlen ⟨_,aK _ _,?_⟩)))))
 cases e:kO L (Tn x.dm) (SD nm imp x.ty) (mem d7 L)with
 |true=>exact⟨true,rfl,yes (by unfold SG;rw[e];rfl)⟩
 |false=>
  refine aG (aq h2 (dO _)) (ao (Lc g (n+28) (SD nm imp x.ty) (oU nm L) _ _ _ _ _ _) ⟨_,aK _ _,?_⟩);cases e2:TZ (oU nm L) (SD nm imp x.ty)with
  |true=>exact yes (by unfold SG;rw[e,e2];rfl)
  |false=>exact no (by unfold SG;rw[e,e2];rfl)
noncomputable def MD:MS:=.ifs (.and [.cmp 8 (.str aP) (.loc 6840676),.not (.call (.glob 32470887554995256498048238874947382110563) [.loc 1851878757])]) [.asg 29681726149062500 (.bool false)] []
noncomputable def bH(nm:Nm)(L:List S):Bool:=mem bQ L&&!nm.isI
theorem N8(g:G)(n:Nat)(nm:Nm):(fs aA (n+20)).e [(iF,.str nm.str)] g (.call (.glob 32470887554995256498048238874947382110563) [.loc 1851878757])=.ok (.bool nm.isI) g:=by cases nm<;>kernel_rfl
theorem Hz{g:G}{n:Nat}{nm:Nm}{L:List S}{l:Loc}{i:Nat}{r:List MS}{Φ:Fl->G->Prop}{Ψ:Prop}(hg:g.get i=.list (bT L))(h1:aT l eV=some (.ref i))(h2:aT l iF=some (.str nm.str))
  (q:(blk (fs aA (n+50)) (match bH nm L with|true=>bY l gi (.bool false)|false=>l) g r).Al Φ Ψ):(blk (fs aA (n+50)) l g (MD::r)).Al Φ Ψ:=by
 have yes:bH nm L=true->(blk (fs aA (n+49)) l g [.asg 29681726149062500 (.bool false)]).Al (Tc aA (n+50) r Φ Ψ) Ψ:=λe=>aZ (n:=n+48) (ao (v:=.bool false) (g:=g) (by kernel_rfl) (all_nil (IF (n:=n+50) (by rw[e]at q;exact q))))
 have no:bH nm L=false->(blk (fs aA (n+49)) l g []).Al (Tc aA (n+50) r Φ Ψ) Ψ:=λe=>all_nil (IF (n:=n+50) (by rw[e]at q;exact q))
 refine b8 (n:=n+49) (bh (n:=n+49) (iO (n:=n+48) (cD (n:=n+47) (ao (v:=.str bQ) (g:=g) (by kernel_rfl) (aD (n:=n+46) h1 ⟨_,gh _ _ bQ L hg,_,aK _ _,?_⟩)))))
 cases e1:mem bQ L with
 |false=>exact⟨false,rfl,no (by unfold bH;rw[e1];rfl)⟩
 |true=>
  refine nK (n:=n+47) (bh (n:=n+47) (aG (aq h2 (dO _)) (ao (N8 g (n+27) nm) ⟨_,aK _ _,!nm.isI,rfl,?_⟩)));cases e2:nm.isI with
  |true=>exact no (by unfold bH;rw[e1,e2];rfl)
  |false=>exact yes (by unfold bH;rw[e1,e2];rfl)
theorem VW(g:G)(i:Nat)(L:List S)(hg:g.get i=.list (bT L)):SI g 1 (.ref i) (.lst [])=some (!L.isEmpty):=by
 show(geq g (.ref i) (.lst [])).map (!·)=_
 show((SY g (.ref i)).bind λl=>deq (.lst l) (.lst [])).map (!·)=_
 rw[tQ hg];have h3:vok 8 (.lst (bT L))=true:=by show(bT L).all (vok 7)=true;unfold bT;rw[List.all_map];exact List.all_eq_true.mpr λ_ _=>rfl
 show(grd (vok 8 (.lst (bT L))&&vok 8 (.lst [])) (veq (.lst (bT L)) (.lst []))).map (!·)=_
 rw[h3];cases L with
 |nil=>rfl
 |cons x L=>rfl
noncomputable def MF:MS:=.ifs (.cmp 1 (.loc 6840676) (.lst 0 [])) [.g7 (.loc 2002873972) (.loc 1851878757) (.loc 7499639)] []
structure Wn where
 a:Option V
 b:Option V
 c:Option V
 i:Option V
 s:Option V
 j:Option V
 o:List S
noncomputable def Wn.get(w:Wn):Nm->Option V
 | .a=>w.a| .b=>w.b| .c=>w.c| .i=>w.i| .s=>w.s| .j=>w.j
noncomputable def Wn.put(w:Wn)(n:Nm)(v:V):Wn:=match n with
 | .a=>{w with a:=some v,o:=w.o++[n.str]}| .b=>{w with b:=some v,o:=w.o++[n.str]}| .c=>{w with c:=some v,o:=w.o++[n.str]}
 | .i=>{w with i:=some v,o:=w.o++[n.str]}| .s=>{w with s:=some v,o:=w.o++[n.str]}| .j=>{w with j:=some v,o:=w.o++[n.str]}
noncomputable def wJ(w:Wn):By:=jP w.a w.b w.c w.i w.s w.j w.o
noncomputable def Hl.want(h:Hl)(w:Wn):Hl:={h with I2:=wJ w}
theorem PM(h:Hl)(imp:Bool)(s:LS)(left:Nat)(w:Wn)(n:Nm)(v:V)(hn:w.get n=none):
  ∃c',((aH (h.want w) imp s left []).get 14).put n.str v=some c'/\(aH (h.want w) imp s left []).set 14 c'=.ok () (aH (h.want (w.put n v)) imp s left []):=by
 obtain⟨wa,wb,wc,wi,ws,wj,wo⟩:=w;cases n<;>(have hn:_=none:=hn;dsimp only[Wn.get]at hn;subst hn;exact⟨_,rfl,rfl⟩)
noncomputable def Uo(w:Wn)(nm:Nm)(v:V):List S->Wn
 |[]=>w
 |_=>w.put nm v
theorem HA{h:Hl}{imp:Bool}{s:LS}{left n i:Nat}{w:Wn}{nm:Nm}{L:List S}{v:V}{l:Loc}{r:List MS}{Φ:Fl->G->Prop}{Ψ:Prop}(hg:(aH (h.want w) imp s left []).get i=.list (bT L))(h1:aT l eV=some (.ref i))(h2:aT l iF=some (.str nm.str))(h3:aT l mz=some v)(h4:aT l 2002873972=some (.ref 14))(hn:w.get nm=none)
  (q:(blk (fs aA (n+50)) l (aH (h.want (Uo w nm v L)) imp s left []) r).Al Φ Ψ):(blk (fs aA (n+50)) l (aH (h.want w) imp s left []) (MF::r)).Al Φ Ψ:=by
 refine b8 (n:=n+49) (bh (n:=n+49) (cD (n:=n+48) (aD (n:=n+47) h1 (ao (v:=.lst []) (g:=aH (h.want w) imp s left []) (by kernel_rfl) ⟨_,VW _ i L hg,_,aK _ _,?_⟩))))
 cases L with
 |nil=>exact all_nil (IF (n:=n+50) q)
 |cons x L=>obtain⟨c',e1,e2⟩:=PM h imp s left w nm v hn;exact rM (n:=n+48) (aD (n:=n+47) h3 (aD (n:=n+47) h4 (aD (n:=n+47) h2 ⟨14,nm.str,c',_,rfl,rfl,e1,e2,all_nil (IF (n:=n+50) q)⟩)))
noncomputable def HB(h:Hl)(imp:Bool)(s:LS):Hd:=⟨h.c0,h.c1,h.c2,h.c3,h.c4,iE,.list s.a.f,.list s.b.f,.list s.c.f,.list s.i.f,.list s.s.f,.list s.j.f,
 .dict (jZ .a s.a++jZ .b s.b++jZ .c s.c++jZ .i s.i++jZ .s s.s++jZ .j s.j) s.od,BW imp,h.I2,h.EF⟩
theorem zf{h:Hl}{imp:Bool}{s:LS}{left n:Nat}{l:Loc}{P:V->G->Prop}{Ψ:Prop}(h1:aT l gM=some (.inst 793 1))
  (q:((fs aA (n+30)).c (GZ (HB h imp s) left) (.fn 754) [.inst 793 1,.fn 868,.inst 772 16]).Al P Ψ):
  ((fs aA (n+31)).e l (aH h imp s left []) (.call (.glob 7800697121625194525130723650675) [.loc 7496055,.glob 32470887554995256498048238874947382110563,.call (.glob 84015690904691) []])).Al P Ψ:=
 aG (aq h1 (dO _)) (SM (y:=(fs aA (n+30)).c (GZ (HB h imp s) left) (.fn 754) [.inst 793 1,.fn 868,.inst 772 16]) (by kernel_rfl) q)
abbrev zg:Nat:=2002873972
theorem N9(h:Hl)(imp:Bool)(s:LS)(left n:Nat)(nm:Nm):(fs aA (n+20)).e [(dg,.ref 5),(iF,.str nm.str)] (aH h imp s left []) (.sub (.loc 439720572019) (.loc 1851878757))=.ok (.ref nm.fi) (aH h imp s left []):=by cases nm<;>kernel_rfl
noncomputable def HD:List MS:=[.asg 6840676 (.sub (.loc 439720572019) (.loc 1851878757)),Hx,.asg 7499639 (.call (.glob 6875977896418242423) [.loc 1851878757,.loc 6840676,.loc 1953459300,.loc 119183001281906]),.asg 1936292453 MB,MC,MD,MF]
structure AR(l:Loc):Prop where
 facts:aT l dg=some (.ref 5)
 told:aT l gC=some (.ref 12)
 letter:aT l fF=some (.ref 13)
 want:aT l zg=some (.ref 14)
 raw:aT l gM=some (.inst 793 1)
theorem AR.set{l:Loc}(h:AR l){x:Nat}{v:V}(h1:x≠dg)(h2:x≠gC)(h3:x≠fF)(h4:x≠zg)(h5:x≠gM):AR (bY l x v):=
 ⟨(aa l v h1.symm).trans h.facts,(aa l v h2.symm).trans h.told,(aa l v h3.symm).trans h.letter,(aa l v h4.symm).trans h.want,(aa l v h5.symm).trans h.raw⟩
noncomputable def kQ(s:LS)(nm:Nm)(L:List S):LS:=match IS L with
 |true=>s.app nm gO
 |false=>s
noncomputable def lg(l:Loc)(b:Bool):Loc:=match b with
 |true=>bY l gi (.bool false)
 |false=>l
theorem pI{l:Loc}{b:Bool}{x:Nat}(h:x≠gi):aT (lg l b) x=aT l x:=by
 cases b with
 |true=>exact aa _ _ h
 |false=>rfl
theorem B6{l:Loc}{b gd:Bool}(h:aT l gi=some (.bool gd)):aT (lg l b) gi=some (.bool (gd&&!b)):=by
 cases b with
 |true=>rw[Bool.not_true,Bool.and_false];exact au _ _ _
 |false=>rw[Bool.not_false,Bool.and_true];exact h
theorem wK{l:Loc}{b:Bool}(h:AR l):AR (lg l b):=by
 cases b with
 |true=>exact h.set (by decide) (by decide) (by decide) (by decide) (by decide)
 |false=>exact h
theorem HF{h:Hl}{imp:Bool}{s:LS}{left n:Nat}{w:Wn}{nm:Nm}{L:List S}{l:Loc}{gd:Bool}{Φ:Fl->G->Prop}{Ψ:Prop}(hl:AR l)(hgd:aT l gi=some (.bool gd))(hn:aT l iF=some (.str nm.str))(hf:(s.get nm).f=bT L)(hlen:L.length<=900)(hw:w.get nm=none)
  (q:∀s' left' l',left<=left'->s'=kQ s nm L->AR l'->aT l' gi=some (.bool (gd&&!(SG nm imp (s'.get nm) (SA L)||bH nm (SA L))))->
   Φ (.next l') (aH (h.want (Uo w nm (To nm imp (s'.get nm) (SA L)) (SA L))) imp s' left' [])):
  (blk (fs aA (n+60)) l (aH (h.want w) imp s (left+1) []) HD).Al Φ Ψ:=by
 refine aZ (n:=n+59) (aG (aq hl.facts (aq hn (dO _))) (ao (N9 (h.want w) imp s (left+1) (n+39) nm) ?_));have l1:AR (bY l eV (.ref nm.fi)):=hl.set (by decide) (by decide) (by decide) (by decide) (by decide)
 have n1:aT (bY l eV (.ref nm.fi)) iF=some (.str nm.str):=(aa _ _ (by decide)).trans hn
 have g1:aT (bY l eV (.ref nm.fi)) gi=some (.bool gd):=(aa _ _ (by decide)).trans hgd
 have h1:=au l eV (.ref nm.fi);refine D3 (n:=n+35) hf h1 λs' left' hle hf' hs'=>?_;have hg':(aH (h.want w) imp s' left' []).get nm.fi=.list (bT (SA L)):=by rw[Hw,hf']
 have hlen':(SA L).length<=1000:=by
  unfold SA;split
  ·rw[List.length_append,List.length_singleton];exact l8 (Nat.succ_le_succ hlen) rfl
  ·exact l8 hlen rfl
 refine aZ (n:=n+59) (aG (aq n1 (aq h1 (aq l1.told (aq l1.letter (dO _))))) (SM (y:=(fs aA (n+8+50)).c (aH (h.want w) imp s' left' []) (.fn 922) [.str nm.str,.ref nm.fi,.ref 12,.ref 13]) (by kernel_rfl) (La (h.want w) imp s' left' (n+8) nm.fi nm (SA L) hg' ?_)))
 have l2:AR (bY (bY l eV (.ref nm.fi)) mz (To nm imp (s'.get nm) (SA L))):=l1.set (by decide) (by decide) (by decide) (by decide) (by decide)
 have n2:aT (bY (bY l eV (.ref nm.fi)) mz (To nm imp (s'.get nm) (SA L))) iF=some (.str nm.str):=(aa _ _ (by decide)).trans n1
 refine aZ (n:=n+59) (aG (aq l2.told (aq n2 (aq l2.letter (dO _)))) (ao (K6 (h.want w) imp s' left' (n+29) nm) ?_));have h2:aT (bY (bY l eV (.ref nm.fi)) mz (To nm imp (s'.get nm) (SA L))) eV=some (.ref nm.fi):=(aa _ _ (by decide)).trans h1
 have r2:=au (bY l eV (.ref nm.fi)) mz (To nm imp (s'.get nm) (SA L));have g2:aT (bY (bY l eV (.ref nm.fi)) mz (To nm imp (s'.get nm) (SA L))) gi=some (.bool gd):=(aa _ _ (by decide)).trans g1
 have l3:AR (bY (bY (bY l eV (.ref nm.fi)) mz (To nm imp (s'.get nm) (SA L))) rS (SD nm imp (s'.get nm).ty).told):=l2.set (by decide) (by decide) (by decide) (by decide) (by decide)
 have n3:aT (bY (bY (bY l eV (.ref nm.fi)) mz (To nm imp (s'.get nm) (SA L))) rS (SD nm imp (s'.get nm).ty).told) iF=some (.str nm.str):=(aa _ _ (by decide)).trans n2
 have h3:aT (bY (bY (bY l eV (.ref nm.fi)) mz (To nm imp (s'.get nm) (SA L))) rS (SD nm imp (s'.get nm).ty).told) eV=some (.ref nm.fi):=(aa _ _ (by decide)).trans h2
 have r3:aT (bY (bY (bY l eV (.ref nm.fi)) mz (To nm imp (s'.get nm) (SA L))) rS (SD nm imp (s'.get nm).ty).told) mz=some (To nm imp (s'.get nm) (SA L)):=(aa _ _ (by decide)).trans r2
 have g3:aT (bY (bY (bY l eV (.ref nm.fi)) mz (To nm imp (s'.get nm) (SA L))) rS (SD nm imp (s'.get nm).ty).told) gi=some (.bool gd):=(aa _ _ (by decide)).trans g2
 have z3:=au (bY (bY l eV (.ref nm.fi)) mz (To nm imp (s'.get nm) (SA L))) rS (SD nm imp (s'.get nm).ty).told;refine Hy (n:=n+10) hg' hlen' h3 r3 z3 ?_;show R.Al (blk (fs aA (n+60)) (lg _ (SG nm imp (s'.get nm) (SA L))) _ _) _ _;refine Hz (n:=n+10) hg' ((pI (by decide)).trans h3) ((pI (by decide)).trans n3) ?_
 show R.Al (blk (fs aA (n+60)) (lg (lg _ (SG nm imp (s'.get nm) (SA L))) (bH nm (SA L))) _ _) _ _;refine HA (n:=n+10) (v:=To nm imp (s'.get nm) (SA L)) hg' ((pI (by decide)).trans ((pI (by decide)).trans h3)) ((pI (by decide)).trans ((pI (by decide)).trans n3)) ((pI (by decide)).trans ((pI (by decide)).trans r3)) (wK (wK l3)).want hw ?_
 refine all_nil ?_;have:=q s' left' _ hle (by rw[hs'];rfl) (wK (wK l3)) (by refine(B6 (b:=bH nm (SA L)) (B6 (b:=SG nm imp (s'.get nm) (SA L)) g3)).trans (congrArg (λb=>some (V.bool b)) ?_);cases gd<;>cases SG nm imp (s'.get nm) (SA L)<;>cases bH nm (SA L)<;>rfl)
 exact this
noncomputable def zh(imp:Bool)(X:Nm->LN)(F:Nm->List S)(nm:Nm):Bool:=SG nm imp (X nm) (SA (F nm))||bH nm (SA (F nm))
noncomputable def Up(imp:Bool)(X:Nm->LN)(F:Nm->List S):Wn->List Nm->Wn
 |w,[]=>w
 |w,nm::L=>Up imp X F (Uo w nm (To nm imp (X nm) (SA (F nm))) (SA (F nm))) L
theorem HG(s:LS)(nm m:Nm)(L:List S):((kQ s nm L).get m).ty=(s.get m).ty:=by unfold kQ;split<;>cases nm<;>cases m<;>rfl
theorem HH(s:LS)(nm m:Nm)(L:List S):((kQ s nm L).get m).dm=(s.get m).dm:=by unfold kQ;split<;>cases nm<;>cases m<;>rfl
theorem Oa(s:LS)(nm m:Nm)(L:List S):((kQ s nm L).get m).cm=(s.get m).cm:=by unfold kQ;split<;>cases nm<;>cases m<;>rfl
theorem Ob(s:LS){nm m:Nm}(L:List S)(h:nm≠m):(kQ s nm L).get m=s.get m:=by unfold kQ;split<;>cases nm<;>cases m<;>first|rfl|exact absurd rfl h
theorem zj{w:Wn}{nm m:Nm}{v:V}{L:List S}(h:nm≠m):(Uo w nm v L).get m=w.get m:=by
 unfold Uo;split
 ·rfl
 ·cases nm<;>cases m<;>first|rfl|exact absurd rfl h
theorem HJ(nm:Nm)(imp:Bool)(s:LS)(L L':List S):To nm imp ((kQ s nm L).get nm) L'=To nm imp (s.get nm) L':=by unfold To;rw[HG,HH,Oa]
theorem AU(nm:Nm)(imp:Bool)(s:LS)(L L':List S):SG nm imp ((kQ s nm L).get nm) L'=SG nm imp (s.get nm) L':=by unfold SG;rw[HG,HH]
theorem rT{h:Hl}{imp:Bool}{n:Nat}(X:Nm->LN)(F:Nm->List S)(hF:∀m,(X m).f=bT (F m))(hlen:∀m,(F m).length<=900){Φ:Fl->G->Prop}{Ψ:Prop}:
  ∀(L:List Nm)(s:LS)(left:Nat)(w:Wn)(l:Loc)(gd:Bool),L.Nodup->(∀m∈L,s.get m=X m)->(∀m∈L,w.get m=none)->AR l->aT l gi=some (.bool gd)->
  (∀s' left' l',left<=left'->AR l'->aT l' gi=some (.bool (gd&&!(L.any (zh imp X F))))->Φ (.next l') (aH (h.want (Up imp X F w L)) imp s' left' []))->
  (loop (fs aA (n+60)) (λl v=>some (bY l 1851878757 v)) HD l (aH (h.want w) imp s (left+L.length) []) (I4 L)).Al Φ Ψ
 |[],s,left,w,l,gd,_,_,_,hl,hg,hΦ=>aN (hΦ s left l (Nat.le_refl _) hl (by rw[hg];cases gd<;>rfl))
 |nm::L,s,left,w,l,gd,hd,hs,hw,hl,hg,hΦ=>by
  have l1:AR (bY l iF (.str nm.str)):=hl.set (by decide) (by decide) (by decide) (by decide) (by decide)
  have g1:aT (bY l iF (.str nm.str)) gi=some (.bool gd):=(aa _ _ (by decide)).trans hg
  have hsn:=hs nm (.head _);refine aM (l1:=bY l iF (.str nm.str)) rfl ?_;rw[show left+(nm::L).length=(left+L.length)+1 from rfl];refine HF l1 g1 (au _ _ _) (by rw[hsn];exact hF nm) (hlen nm) (hw nm (.head _)) λs' left' l' hle hs' hl' hg'=>?_
  have e1:SG nm imp (s'.get nm) (SA (F nm))=SG nm imp (X nm) (SA (F nm)):=by rw[hs',AU,hsn]
  have e2:To nm imp (s'.get nm) (SA (F nm))=To nm imp (X nm) (SA (F nm)):=by rw[hs',HJ,hsn]
  rw[e1]at hg';rw[e2];have hnd:=List.nodup_cons.mp hd;have ne:∀m∈L,nm≠m:=λm hm e=>hnd.1 (e▸hm);obtain⟨k,rfl⟩:∃k,left'=k+L.length:=QI hle;refine rT X F hF hlen L s' k _ l' _ hnd.2 (λm hm=>?_) (λm hm=>?_) hl' hg' (λs'' left'' l'' h1 h2 h3=>hΦ s'' left'' l'' (Nat.le_trans (Nat.le_of_add_le_add_right hle) h1) h2 ?_)
  ·rw[hs',Ob _ _ (ne m hm)];exact hs m (.tail _ hm)
  ·rw[zj (ne m hm)];exact hw m (.tail _ hm)
  ·rw[h3];refine congrArg (λb=>some (V.bool b)) ?_;rw[List.any_cons];unfold zh;cases gd<;>cases SG nm imp (X nm) (SA (F nm))<;>cases bH nm (SA (F nm))<;>cases L.any (λnm=>SG nm imp (X nm) (SA (F nm))||bH nm (SA (F nm)))<;>rfl
noncomputable def Ud:List Nm:=[.a,.b,.c,.i,.s,.j]
abbrev wL:Nat:=32503133031591027
abbrev kR:Nat:=439956631140
abbrev tL:Nat:=7302757
noncomputable def rU(x:Sy):V:=match x.use with
 | .param=>x.val.v
 |_=>.none
noncomputable def rX(x:Sy):V:=.lst [x.kl.kind,x.kl.len,x.dims.v,.str x.use.s,.bool x.bF,rU x,x.fV.v,.bool x.d9]
noncomputable def PN:ME:=.ite (.cmp 0 (.attr (.loc 7302757) bO) (.str aQ)) (.attr (.loc 7302757) fO) (.none)
noncomputable def Wc:ME:=.lst 0 [.attr (.loc 7302757) cu,.attr (.loc 7302757) cN,.attr (.loc 7302757) bL,.attr (.loc 7302757) bO,.attr (.loc 7302757) b9,.loc 508440638821,.attr (.loc 7302757) aJ,.attr (.loc 7302757) cg]
noncomputable def HK:List MS:=[.asg 7302757 (.sub (.loc 32503133031591027) (.loc 1851878757)),.asg 508440638821 PN,.g7 (.loc 439956631140) (.loc 1851878757) Wc]
theorem Od(h:Hd)(imp:Bool)(t:T)(left n:Nat)(nm:Nm)(x:Sy)(hx:(t.get nm).sy=some x):(fs aA (n+20)).e [(wL,.ref 21),(iF,.str nm.str)] (bE h imp t left [21]) (.sub (.loc 32503133031591027) (.loc 1851878757))=.ok (kH nm) (bE h imp t left [21]):=by obtain⟨⟨asy,a1,a2,a3,a4,a5⟩,⟨bsy,b1,b2,b3,b4,b5⟩,⟨csy,c1,c2,c3,c4,c5⟩,⟨isy,i1,i2,i3,i4,i5⟩,⟨ssy,s1,s2,s3,s4,s5⟩,⟨jsy,j1,j2,j3,j4,j5⟩,so,MV,kh,kM,MW,MX⟩:=t;cases nm<;>(have hx:_=some x:=hx;dsimp only[T.get]at hx;subst hx;kernel_rfl)
theorem Oe(h:Hd)(imp:Bool)(t:T)(left n:Nat)(nm:Nm)(x:Sy)(hx:(t.get nm).sy=some x):(fs aA (n+20)).e [(tL,kH nm)] (bE h imp t left [21]) PN=.ok (rU x) (bE h imp t left [21]):=by obtain⟨⟨asy,a1,a2,a3,a4,a5⟩,⟨bsy,b1,b2,b3,b4,b5⟩,⟨csy,c1,c2,c3,c4,c5⟩,⟨isy,i1,i2,i3,i4,i5⟩,⟨ssy,s1,s2,s3,s4,s5⟩,⟨jsy,j1,j2,j3,j4,j5⟩,so,MV,kh,kM,MW,MX⟩:=t;obtain⟨kl,dims,use,bF,val,fV,d9⟩:=x;cases nm<;>(have hx:_=some _:=hx;dsimp only[T.get]at hx;subst hx;cases use<;>kernel_rfl)
theorem Ld(h:Hd)(imp:Bool)(t:T)(left n:Nat)(nm:Nm)(x:Sy)(v:V)(hx:(t.get nm).sy=some x):(fs aA (n+20)).e [(tL,kH nm),(508440638821,v)] (bE h imp t left [21]) Wc=.ok (.lst [x.kl.kind,x.kl.len,x.dims.v,.str x.use.s,.bool x.bF,v,x.fV.v,.bool x.d9]) (bE h imp t left [21]):=by obtain⟨⟨asy,a1,a2,a3,a4,a5⟩,⟨bsy,b1,b2,b3,b4,b5⟩,⟨csy,c1,c2,c3,c4,c5⟩,⟨isy,i1,i2,i3,i4,i5⟩,⟨ssy,s1,s2,s3,s4,s5⟩,⟨jsy,j1,j2,j3,j4,j5⟩,so,MV,kh,kM,MW,MX⟩:=t;cases nm<;>(have hx:_=some _:=hx;dsimp only[T.get]at hx;subst hx;kernel_rfl)
noncomputable def Hd.found(h:Hd)(w:Wn):Hd:={h with EF:=wJ w}
theorem PO(h:Hd)(imp:Bool)(t:T)(left:Nat)(w:Wn)(n:Nm)(v:V)(hn:w.get n=none):
  ∃c',((bE (h.found w) imp t left [21]).get 15).put n.str v=some c'/\(bE (h.found w) imp t left [21]).set 15 c'=.ok () (bE (h.found (w.put n v)) imp t left [21]):=by
 obtain⟨wa,wb,wc,wi,ws,wj,wo⟩:=w;cases n<;>(have hn:_=none:=hn;dsimp only[Wn.get]at hn;subst hn;exact⟨_,rfl,rfl⟩)
noncomputable def Tr(t:T):Wn->List Nm->Wn
 |w,[]=>w
 |w,nm::L=>match(t.get nm).sy with
  |none=>Tr t w L
  |some x=>Tr t (w.put nm (rX x)) L
theorem AV{w:Wn}{nm m:Nm}{v:V}(h:nm≠m):(w.put nm v).get m=w.get m:=by cases nm<;>cases m<;>first|rfl|exact absurd rfl h
theorem zl(w:Wn)(nm:Nm)(v:V):(w.put nm v).get nm=some v:=by cases nm<;>rfl
theorem MH(w:Wn)(nm:Nm)(v:V):(w.put nm v).o=w.o++[nm.str]:=by cases nm<;>rfl
theorem rY{h:Hd}{imp:Bool}{t:T}{left n:Nat}{Φ:Fl->G->Prop}{Ψ:Prop}:∀(L:List Nm)(w:Wn)(l:Loc),L.Nodup->(∀m∈L,has t m)->(∀m∈L,w.get m=none)->aT l wL=some (.ref 21)->aT l kR=some (.ref 15)->
  (∀l',(∀x,x≠iF->x≠tL->x≠oV->aT l' x=aT l x)->Φ (.next l') (bE (h.found (Tr t w L)) imp t left [21]))->
  (loop (fs aA (n+30)) (λl v=>some (bY l 1851878757 v)) HK l (bE (h.found w) imp t left [21]) (I4 L)).Al Φ Ψ
 |[],w,l,_,_,_,h1,h2,hΦ=>aN (hΦ l λ_ _ _ _=>rfl)
 |nm::L,w,l,hd,hh,hw,h1,h2,hΦ=>by
  obtain⟨x,hx⟩:=hh nm (.head _);have a1:aT (bY l iF (.str nm.str)) wL=some (.ref 21):=(aa _ _ (by decide)).trans h1
  have a2:aT (bY l iF (.str nm.str)) kR=some (.ref 15):=(aa _ _ (by decide)).trans h2
  have a3:=au l iF (.str nm.str);refine aM (l1:=bY l iF (.str nm.str)) rfl ?_;refine aZ (n:=n+29) (aG (aq a1 (aq a3 (dO _))) (ao (Od _ imp t left (n+9) nm x hx) ?_));have b1:=au (bY l iF (.str nm.str)) tL (kH nm);refine aZ (n:=n+29) (aG (aq b1 (dO _)) (ao (Oe _ imp t left (n+9) nm x hx) ?_));have c1:aT (bY (bY (bY l iF (.str nm.str)) tL (kH nm)) oV (rU x)) tL=some (kH nm):=(aa _ _ (by decide)).trans b1
  have c2:=au (bY (bY l iF (.str nm.str)) tL (kH nm)) oV (rU x);have c3:aT (bY (bY (bY l iF (.str nm.str)) tL (kH nm)) oV (rU x)) kR=some (.ref 15):=(aa _ _ (by decide)).trans ((aa _ _ (by decide)).trans a2)
  have c4:aT (bY (bY (bY l iF (.str nm.str)) tL (kH nm)) oV (rU x)) iF=some (.str nm.str):=(aa _ _ (by decide)).trans ((aa _ _ (by decide)).trans a3)
  have c5:aT (bY (bY (bY l iF (.str nm.str)) tL (kH nm)) oV (rU x)) wL=some (.ref 21):=(aa _ _ (by decide)).trans ((aa _ _ (by decide)).trans a1)
  obtain⟨c',e1,e2⟩:=PO h imp t left w nm (rX x) (hw nm (.head _));refine rM (n:=n+29) (aG (aq c1 (aq c2 (dO _))) (ao (Ld _ imp t left (n+9) nm x (rU x) hx) (aD (n:=n+28) c3 (aD (n:=n+28) c4 ⟨15,nm.str,c',_,rfl,rfl,e1,e2,all_nil ?_⟩))));have hnd:=List.nodup_cons.mp hd;have ne:∀m∈L,nm≠m:=λm hm e=>hnd.1 (e▸hm);refine rY L (w.put nm (rX x)) _ hnd.2 (λm hm=>hh m (.tail _ hm)) (λm hm=>(AV (ne m hm)).trans (hw m (.tail _ hm))) c5 c3 λl' hk=>?_;have:=hΦ l' λy k1 k2 k3=>(hk y k1 k2 k3).trans ((aa _ _ k3).trans ((aa _ _ k2).trans (aa _ _ k1)));unfold Tr at this;rw[hx]at this;exact this
theorem wM(s:S):As s s=true:=iC s
theorem uM{p:V->Bool}(h:∀v,p v=true->veq v v=some true){l:List V}(q:l.all p=true):Ui l l=some true:=by
 induction l with
 |nil=>rfl
 |cons a l ih=>
  show(match veq a a with
   |some true=>Ui l l
   |some false=>match Ui l l with
    |some _=>some false
    |none=>none
   |none=>none)=_
  rw[h a (aj q)];exact ih (ak q)
theorem HL(n:Nat):∀v,vok n v=true->veq v v=some true:=by
 have flat:∀v,vok 0 v=true->veq v v=some true:=λv h=>by
  cases v with
  |none=>rfl
  |bool b=>exact congrArg some (beq_self_eq_true b)
  |int i=>exact congrArg some (decide_eq_true rfl)
  |str s=>exact congrArg some (wM s)
  |_=>exact nomatch (h:false=true)
 induction n with
 |zero=>exact flat
 |succ n ih=>
  intro v h;cases v with
  |tup l=>exact uM ih h
  |lst l=>exact uM ih h
  |none=>rfl
  |bool b=>exact flat (.bool b) rfl
  |int i=>exact flat (.int i) rfl
  |str s=>exact flat (.str s) rfl
  |_=>exact nomatch (h:false=true)
theorem HM{v:V}(h:vok 8 v=true):deq v v=some true:=by show grd (vok 8 v&&vok 8 v) (veq v v)=_;rw[h];exact HL 8 v h
noncomputable def rZ(w:Wn):List (S×Option V):=[(nA,w.a),(nB,w.b),(nC,w.c),(nI,w.i),(yC,w.s),(nJ,w.j)]
theorem B7(w:Wn)(nm:Nm):S3 (rZ w) nm.str=w.get nm:=by
 obtain⟨a,b,c,i,s,j,o⟩:=w;have h:∀o:Option V,(match some o with|some (some v)=>some v|_=>none)=o:=λo=>by cases o<;>rfl
 cases nm<;>exact h _
theorem D4{a b:Wn}{L:List Nm}(h:∀m∈L,∃v,a.get m=some v/\b.get m=some v/\vok 8 v=true):UA (rZ a) (rZ b) (L.map Nm.str)=some true:=by
 induction L with
 |nil=>rfl
 |cons nm L ih=>
  obtain⟨v,h1,h2,h3⟩:=h nm (.head _);show(match S3 (rZ a) nm.str,S3 (rZ b) nm.str with
   |some x,some y=>match deq x y,UA (rZ a) (rZ b) (L.map Nm.str)with
    |some c,some d=>some (c&&d)
    |_,_=>none
   |_,_=>some false)=_
  rw[B7,B7,h1,h2];dsimp only;rw[HM h3,ih λm hm=>h m (.tail _ hm)];rfl
theorem HN{g:G}{a b:Wn}{L L':List Nm}(h1:g.get 15=wJ a)(h2:g.get 14=wJ b)(ha:a.o=L.map Nm.str)(hb:b.o=L'.map Nm.str)(hl:L.length=L'.length)
  (h:∀m∈L,∃v,a.get m=some v/\b.get m=some v/\vok 8 v=true):SI g 0 (.ref 15) (.ref 14)=some true:=by
 refine(xq h1).trans ((xq h2).trans ?_);rw[ha,hb,List.length_map,List.length_map,hl,Nat.beq_refl];exact D4 h
theorem Lf(k:Kl)(d:Dm)(u:S)(b s:Bool)(val fV:V)(hv:vok 7 val=true)(hc:vok 7 fV=true):vok 8 (.lst [k.kind,k.len,d.v,.str u,.bool b,val,fV,.bool s])=true:=by
 show [k.kind,k.len,d.v,.str u,.bool b,val,fV,.bool s].all (vok 7)=true;have h1:vok 7 k.kind=true:=by cases k<;>rfl
 have h2:vok 7 k.len=true:=by cases k<;>rfl
 have h3:vok 7 d.v=true:=by cases d<;>rfl
 simp only[List.all_cons,List.all_nil,h1,h2,h3,hv,hc,Bool.true_and,Bool.and_true];rfl
theorem HO(x:Sy):vok 8 (rX x)=true:=by
 refine Lf _ _ _ _ _ _ _ ?_ ?_
 ·unfold rU;split
  ·cases x.val<;>rfl
  ·rfl
 ·cases x.fV<;>rfl
theorem R.Al.tr{α:Type}{r h:R α}{Φ:α->G->Prop}{Ψ:Prop}:(r.tr h).Al Φ Ψ↔r.Al Φ (h.Al Φ Ψ):=by
 constructor
 ·intro q;exact⟨(R.All.tr.mp q.out).mono (λ_ _ p=>p) (λp=>⟨p⟩)⟩
 ·intro q;exact⟨R.All.tr.mpr (q.out.mono (λ_ _ p=>p) (λp=>p.out))⟩
theorem Lg{n:Nat}{l:Loc}{g:G}{b h:List MS}{r:List MS}{x:Nat}{Φ:Fl->G->Prop}{Ψ:Prop}(hx:Nat.beq x aA.exc=true)
  (q:(blk (fs aA n) l g b).Al (Tc aA (n+1) r Φ Ψ) ((blk (fs aA n) (clean l) ⟨[],0,[]⟩ h).Al (Tc aA (n+1) r Φ Ψ) Ψ)):(blk (fs aA (n+1)) l g (.tr b x h::r)).Al Φ Ψ:=by
 refine cy ?_;show((blk (fs aA n) l g b).tr (match Nat.beq x aA.exc with
   |true=>blk (fs aA n) (clean l) ⟨[],0,[]⟩ h
   |false=>.st)).Al _ _
 rw[hx];exact R.Al.tr.mpr q
theorem r7{y:Nat}{b:Bool}:∀{l:Loc},aT l y=some (.bool b)->aT (clean l) y=some (.bool b)
 |[],h=>by cases h
 |(x,v)::r,h=>by
  unfold clean;unfold aT at h;cases e:Nat.beq x y with
  |true=>rw[e]at h;cases h;unfold aT;rw[e]
  |false=>rw[e]at h;cases v<;>(unfold aT;dsimp only;rw[e];exact r7 h)
noncomputable def zO:Wn:=⟨none,none,none,none,none,none,[]⟩
theorem Lh(h:Hd)(imp:Bool)(t:T)(left n:Nat)(hf:h.EF=.free)(l:Loc):(fs aA (n+5)).e l (bE h imp t left []) (.dict 17 [])=.ok (.ref 15) (bE (h.found zO) imp t left []):=by obtain⟨c0,c1,c2,c3,c4,c5,f0,f1,f2,f3,f4,f5,c12,RA,I2,EF⟩:=h;have hf:EF=.free:=hf;subst hf;kernel_rfl
theorem mC{t:T}:∀(L:List Nm)(w:Wn),L.Nodup->(∀m∈L,w.get m=none)->∀m,(m∈L->(Tr t w L).get m=((t.get m).sy).map rX)/\(m∉L->(Tr t w L).get m=w.get m)
 |[],w,_,_,m=>⟨λh=>(nomatch h),λ_=>rfl⟩
 |n::L,w,hd,hw,m=>by
  have hnd:=List.nodup_cons.mp hd;have ne:∀m∈L,n≠m:=λm hm e=>hnd.1 (e▸hm);unfold Tr;cases hx:(t.get n).sy with
  |none=>
   have ih:=mC (t:=t) L w hnd.2 (λm hm=>hw m (.tail _ hm)) m;constructor
   ·intro hm;rcases List.mem_cons.mp hm with rfl|hm
    ·exact(ih.2 hnd.1).trans (by rw[hx,hw _ (.head _)];rfl)
    ·exact ih.1 hm
   ·intro hm;exact ih.2 λq=>hm (.tail _ q)
  |some x=>
   have ih:=mC (t:=t) L (w.put n (rX x)) hnd.2 (λm hm=>(AV (ne m hm)).trans (hw m (.tail _ hm))) m;constructor
   ·intro hm;rcases List.mem_cons.mp hm with rfl|hm
    ·exact(ih.2 hnd.1).trans (by rw[hx,zl];rfl)
    ·exact ih.1 hm
   ·intro hm;have h1:n≠m:=λe=>hm (e▸.head _);exact(ih.2 λq=>hm (.tail _ q)).trans (AV h1)
theorem zm{t:T}:∀(L:List Nm)(w:Wn),(∀m∈L,has t m)->(Tr t w L).o=w.o++L.map Nm.str
 |[],w,_=>(List.append_nil _).symm
 |n::L,w,h=>by obtain⟨x,hx⟩:=h n (.head _);unfold Tr;rw[hx];refine(zm L _ λm hm=>h m (.tail _ hm)).trans ?_;rw[MH,List.append_assoc];rfl
noncomputable def Li:ME:=.call (.glob 7800697121625194525130723650675) [.loc 7496055,.glob 32470887554995256498048238874947382110563,.call (.glob 84015690904691) []]
noncomputable def B8:List MS:=[.tr [.asg 32503133031591027 Li] 318324321536902574730356 [.ret (some (.not (.loc 29681726149062500)))],.asg 439956631140 (.dict 17 []),.gw 1851878757 (.loc 32503133031591027) HK,.ret (some (.and [.loc 29681726149062500,.cmp 0 (.loc 439956631140) (.loc 2002873972)]))]
set_option tactic.hygienic true in
theorem D5{kd:Kd}{t t':T}{L1 L2 L3:List Nm}(k1:∀n∈L1,has t n)(k2:∀n∈L2,has t n)(e:S8 kd t L1 L2 L3=some t'):Sm t t':=by
 unfold S8 at e;split at e
 ·cases e
 ·rename_i t1 e1;have s1:=oH k1 e1;split at e
  ·cases e
  ·rename_i t2 e2;have s2:=mq (λn hn=>s1.hs n (k2 n hn)) e2;split at e
   ·cases e;exact s1.trans s2
   ·cases e
theorem HP{h:Hl}{w:Raw}(hw:w.ok=true)(hm:w.sp.length<=7){s:LS}{left n:Nat}{ww:Wn}{l:Loc}{gd:Bool}(hl:AR l)(hg:aT l gi=some (.bool gd))
  (hc1:h.c1=aC w.kd w.d w.r) (hc2:h.c2=.list (iS w.imp w.sp)) (hc3:h.c3=.list (lR w.stf)) (hc4:h.c4=.list (Tg w.bd)) (hc15:h.EF=.free)
  (bad:(SJ w=none\/∃t L1 L2 L3,SJ w=some t/\Wf t/\t.kM=L1.map Nm.str/\t.kh=L2.map Nm.str/\t.so=L3.map Nm.str/\S8 w.kd t L1 L2 L3=none)->gd=false)
  (good:∀t L1 L2 L3 t',SJ w=some t->Wf t->t.kM=L1.map Nm.str->t.kh=L2.map Nm.str->t.so=L3.map Nm.str->S8 w.kd t L1 L2 L3=some t'->
   gd=true/\L3.Nodup/\(∀n∈L1,has t n)/\(∀n∈L2,has t n)/\(∀n∈L3,has t n)/\∃L':List Nm,ww.o=L'.map Nm.str/\L3.length=L'.length/\∀m∈L3,∃x,(t'.get m).sy=some x/\ww.get m=some (rX x)):
  (blk (fs aA (n+160)) l (aH (h.want ww) w.imp s (left+2 * w.sp.length) []) B8).Al dR False:=by
 have ans:∀(gd:Bool),gd=false->(blk (fs aA (n+159)) (clean l) ⟨[],0,[]⟩ [.ret (some (.not (.loc 29681726149062500)))]).Al (Tc aA (n+160) (B8.drop 1) dR False) False\/True:=λ_ _=>.inr trivial;have hd:HB (h.want ww) w.imp s=w.hd (HB (h.want ww) w.imp s):=by unfold Raw.hd HB;simp only[Hl.want,hc1,hc2,hc3,hc4]
 refine Lg (n:=n+159) rfl (aZ (n:=n+158) ?_);refine zf (n:=n+127) hl.raw ?_;rw[show n+127+30=(n+6)+7+144 from rfl,hd];refine DM _ w hw left (n+6) 7 hm (λt L1 L2 L3 t' left' e1 e2 e3 e4 e5 e6 hle=>?_) (λe=>?_)
 ·obtain⟨hgd,hnd,k1,k2,k3,L',ho,hlen,hrow⟩:=good t L1 L2 L3 t' e1 e2 e3 e4 e5 e6;have sm:=D5 k1 k2 e6;have hso:t'.so=L3.map Nm.str:=sm.so.trans e5;refine all_nil (IF (n:=n+160) (aZ (n:=n+159) (ao (Lh _ w.imp t' left' (n+154) (by exact hc15) _) ?_)))
  have a1:aT (bY (bY l wL (.ref 21)) kR (.ref 15)) wL=some (.ref 21):=(aa _ _ (by decide)).trans (au _ _ _)
  have a2:=au (bY l wL (.ref 21)) kR (.ref 15);have a3:aT (bY (bY l wL (.ref 21)) kR (.ref 15)) gi=some (.bool gd):=(aa _ _ (by decide)).trans ((aa _ _ (by decide)).trans hg)
  have a4:aT (bY (bY l wL (.ref 21)) kR (.ref 15)) zg=some (.ref 14):=(aa _ _ (by decide)).trans ((aa _ _ (by decide)).trans hl.want)
  refine gZ (n:=n+159) (aD (n:=n+158) a1 ⟨I4 L3,?_,?_⟩)
  ·show some (t'.so.map V.str)=_;rw[hso,List.map_map];rfl
  refine rY (n:=n+129) L3 zO _ hnd (λm hm=>sm.hs m (k3 m hm)) (λm _=>by cases m<;>rfl) a1 a2 λl' hk=>?_
  have b1:aT l' gi=some (.bool gd):=(hk _ (by decide) (by decide) (by decide)).trans a3
  have b2:aT l' kR=some (.ref 15):=(hk _ (by decide) (by decide) (by decide)).trans a2
  have b4:aT l' zg=some (.ref 14):=(hk _ (by decide) (by decide) (by decide)).trans a4
  refine IF (n:=n+160) (bW (n:=n+159) (iO (n:=n+158) (aD (n:=n+157) b1 ⟨gd,rfl,?_⟩)));subst hgd;have hL:∀m∈L3,∃v,(Tr t' zO L3).get m=some v/\ww.get m=some v/\vok 8 v=true:=λm hm=>by obtain⟨x,h1,h2⟩:=hrow m hm;exact⟨rX x,by rw[(mC L3 zO hnd (λm _=>by cases m<;>rfl) m).1 hm,h1];rfl,h2,HO x⟩
  refine cD (n:=n+157) (aD (n:=n+156) b2 (aD (n:=n+156) b4 ⟨true,?_,rfl⟩));refine HN (a:=Tr t' zO L3) (b:=ww) (L:=L3) (L':=L') ?_ ?_ ?_ ho hlen hL
  ·rfl
  ·rfl
  ·exact(zm L3 zO λm hm=>sm.hs m (k3 m hm)).trans (List.nil_append _)
 ·have hgd:=bad e;subst hgd;exact bW (n:=n+158) (nK (n:=n+157) (bh (n:=n+157) (aD (n:=n+156) (r7 hg) ⟨false,rfl,rfl⟩)))
noncomputable def uN(w:Raw):LS:=((((LS.head w.kd w.r).tH w.d.l).specs w.qg).stf w.stf).stmts w.sts
structure HQ(w:Raw)(F:Nm->List S):Prop where
 hF:∀m,((uN w).get m).f=bT (F m)
 hlen:∀m,(F m).length<=900
 bad:(SJ w=none\/∃t L1 L2 L3,SJ w=some t/\Wf t/\t.kM=L1.map Nm.str/\t.kh=L2.map Nm.str/\t.so=L3.map Nm.str/\S8 w.kd t L1 L2 L3=none)->Ud.any (zh w.imp (uN w).get F)=true
 good:∀t L1 L2 L3 t',SJ w=some t->Wf t->t.kM=L1.map Nm.str->t.kh=L2.map Nm.str->t.so=L3.map Nm.str->S8 w.kd t L1 L2 L3=some t'->
   Ud.any (zh w.imp (uN w).get F)=false/\L3.Nodup/\(∀n∈L1,has t n)/\(∀n∈L2,has t n)/\(∀n∈L3,has t n)/\∃L':List Nm,(Up w.imp (uN w).get F zO Ud).o=L'.map Nm.str/\L3.length=L'.length/\
    ∀m∈L3,∃x,(t'.get m).sy=some x/\(Up w.imp (uN w).get F zO Ud).get m=some (rX x)
abbrev dw:Nat:=126870958469236
theorem HR(w:Raw)(left n:Nat)(l:Loc):(fs aA (n+5)).e l (pD w left) .facts=.ok (.ref 5) ⟨(0,.pen)::(1,aC w.kd w.d w.r)::(2,.list (iS w.imp w.sp))::(3,.list (lR w.stf))::(4,.list (Tg w.bd))::(5,iE)::(100,.list [])::(101,.list [])::(102,.list [])::(103,.list [])::(104,.list [])::(105,.list [])::rK.drop 7,left,[]⟩:=by kernel_rfl
noncomputable def iW(w:Raw):Hl:=⟨.pen,aC w.kd w.d w.r,.list (iS w.imp w.sp),.list (lR w.stf),.list (Tg w.bd),.free,.free⟩
theorem Lj(w:Raw)(left n:Nat)(l:Loc):(fs aA (n+5)).e l ⟨(0,.pen)::(1,aC w.kd w.d w.r)::(2,.list (iS w.imp w.sp))::(3,.list (lR w.stf))::(4,.list (Tg w.bd))::(5,iE)::(100,.list [])::(101,.list [])::(102,.list [])::(103,.list [])::(104,.list [])::(105,.list [])::rK.drop 7,left,[]⟩ (.dict 14 [])=
  .ok (.ref 12) ⟨(0,.pen)::(1,aC w.kd w.d w.r)::(2,.list (iS w.imp w.sp))::(3,.list (lR w.stf))::(4,.list (Tg w.bd))::(5,iE)::(100,.list [])::(101,.list [])::(102,.list [])::(103,.list [])::(104,.list [])::(105,.list [])::(12,slots aA 12)::rK.drop 8,left,[]⟩:=by
 kernel_rfl
theorem D6(w:Raw)(left n:Nat)(l:Loc):(fs aA (n+5)).e l ⟨(0,.pen)::(1,aC w.kd w.d w.r)::(2,.list (iS w.imp w.sp))::(3,.list (lR w.stf))::(4,.list (Tg w.bd))::(5,iE)::(100,.list [])::(101,.list [])::(102,.list [])::(103,.list [])::(104,.list [])::(105,.list [])::(12,slots aA 12)::rK.drop 8,left,[]⟩ (.dict 15 [])=
  .ok (.ref 13) (aH (iW w) false NW left []):=by
 kernel_rfl
theorem Ll(h:Hl)(imp:Bool)(s:LS)(left n:Nat)(hf:h.I2=.free)(l:Loc):(fs aA (n+5)).e l (aH h imp s left []) (.dict 16 [])=.ok (.ref 14) (aH (h.want zO) imp s left []):=by obtain⟨c0,c1,c2,c3,c4,I2,EF⟩:=h;have hf:I2=.free:=hf;subst hf;kernel_rfl
noncomputable def HT:MS:=.gw 1851878757 (.glob 450624087419648520054131) HD
theorem wN{w:Raw}{F:Nm->List S}(hw:w.ok=true)(h7:w.sp.length<=7)(pl:HQ w F){left n:Nat}{l:Loc}(hl:AR l)(hg:aT l gi=some (.bool true)):
  (blk (fs aA (n+160)) l (aH ((iW w).want zO) w.imp (uN w) (left+20) []) (HT::B8)).Al dR False:=by
 refine gZ (n:=n+159) (ao (v:=rJ) (g:=aH ((iW w).want zO) w.imp (uN w) (left+20) []) (by kernel_rfl) ⟨I4 Ud,rfl,?_⟩)
 show R.Al (loop (fs aA (n+99+60)) _ _ l (aH ((iW w).want zO) w.imp (uN w) (left+14+Ud.length) []) _) _ _;refine rT (uN w).get F pl.hF pl.hlen Ud (uN w) (left+14) zO l true (by decide) (λ_ _=>rfl) (λm _=>by cases m<;>rfl) hl hg λs' left' l' hle hl' hg'=>?_
 refine IF (n:=n+160) ?_;obtain⟨k,rfl⟩:∃k,left'=k+2 * w.sp.length:=Nat.exists_eq_add_of_le' (Nat.le_trans (Nat.mul_le_mul_left 2 h7) (Nat.le_trans (Nat.le_add_left 14 left) hle));refine HP (h:=iW w) hw h7 hl' hg' rfl rfl rfl rfl rfl (λe=>?_) (λt L1 L2 L3 t' e1 e2 e3 e4 e5 e6=>?_)
 ·rw[pl.bad e];rfl
 ·obtain⟨a,b⟩:=pl.good t L1 L2 L3 t' e1 e2 e3 e4 e5 e6;exact⟨by rw[a];rfl,b⟩
structure ED(l:Loc):Prop where
 raw:aT l gM=some (.inst 793 1)
 facts:aT l dg=some (.ref 5)
 told:aT l gC=some (.ref 12)
 letter:aT l fF=some (.ref 13)
theorem ED.of{l l':Loc}(h:ED l)(k:∀x,x=gM\/x=dg\/x=gC\/x=fF->aT l' x=aT l x):ED l':=
 ⟨(k _ (.inl rfl)).trans h.raw,(k _ (.inr (.inl rfl))).trans h.facts,(k _ (.inr (.inr (.inl rfl)))).trans h.told,(k _ (.inr (.inr (.inr rfl)))).trans h.letter⟩
noncomputable def l4:Loc:=[(gM,.inst 793 1),(dg,.ref 5),(gC,.ref 12),(fF,.ref 13)]
theorem ED.le{l:Loc}(h:ED l):Le l4 l:=aq h.raw (aq h.facts (aq h.told (aq h.letter (dO _))))
theorem D7{l:Loc}(h:Le l4 l):ED l:=⟨h _ _ rfl,h _ _ rfl,h _ _ rfl,h _ _ rfl⟩
theorem Of{w:Raw}(h:w.ok=true):AO w.kd w.d w.r=true:=(Bool.and_eq_true_iff.mp h).1
noncomputable def Og:List MS:=[.asg 2002873972 (.dict 16 []),.asg 29681726149062500 (.bool true)]++HT::B8
theorem AW{w:Raw}{F:Nm->List S}(hw:w.ok=true)(h7:w.sp.length<=7)(pl:HQ w F){left n:Nat}{l:Loc}(h:ED l):
  (blk (fs aA (n+160)) l (aH (iW w) w.imp (uN w) (left+20) []) Og).Al dR False:=by
 refine aZ (n:=n+159) (ao (Ll (iW w) w.imp (uN w) (left+20) (n+154) rfl l) ?_);refine aZ (n:=n+159) (ao (v:=.bool true) (g:=aH ((iW w).want zO) w.imp (uN w) (left+20) []) (by kernel_rfl) ?_)
 have a:∀(x:Nat)(b:V),x≠gi->x≠zg->aT (bY (bY l 2002873972 (.ref 14)) 29681726149062500 (.bool true)) x=aT l x:=λx b h1 h2=>(aa _ _ h1).trans (aa _ _ h2);refine wN hw h7 pl ⟨(a _ .none (by decide) (by decide)).trans h.facts,(a _ .none (by decide) (by decide)).trans h.told,(a _ .none (by decide) (by decide)).trans h.letter,(aa _ _ (by decide)).trans (au _ _ _),(a _ .none (by decide) (by decide)).trans h.raw⟩ (au _ _ _)
noncomputable def MI:MS:=.gw 1851878757 (.attr (.loc 7496055) dH) PJ
noncomputable def HU:MS:=.g8 [1818848869,1936745827] (.attr (.loc 7496055) cQ) G7
noncomputable def PR:MS:=.g8 [1818848869,1851878757,28276610518574451,1651467385] (.attr (.loc 7496055) dI) PI
noncomputable def MJ:MS:=.g8 [465490306412,1937010036,1818848869] (.attr (.loc 7496055) fh) Mz
theorem PS{kd:Kd}{r:Option Kl}{left:Nat}:∃k,rN kd r left=left+k:=by cases kd<;>cases r<;>first|exact⟨2,rfl⟩|exact⟨1,rfl⟩|exact⟨0,rfl⟩
theorem wO{w:Raw}{F:Nm->List S}(hw:w.ok=true)(h7:w.sp.length<=7)(h3:w.bd.length<=3)(pl:HQ w F){left n:Nat}{l:Loc}(h:ED l):
  (blk (fs aA (n+160)) l (aH (iW w) false NW (left+60) []) ([G8,MI,HU,PR,MJ]++Og)).Al dR False:=by
 refine cy (n:=n+160) (BS h.le (K1 (iW w) w.kd w.d w.r (Of hw) (left+58) (n+130) rfl) λl1 hl1=>?_);have q1:=D7 hl1;obtain⟨k1,hk1⟩:∃k1,rN w.kd w.r (left+58)=left+58+k1:=PS (left:=left+58);refine IF (n:=n+160) ?_;rw[hk1];refine gZ (n:=n+159) (aG (aq q1.raw (dO _)) (ao (v:=.lst (I4 w.d.l)) (g:=aH (iW w) false (LS.head w.kd w.r) (left+58+k1) []) (by kernel_rfl) ⟨_,rfl,?_⟩))
 have hd2:w.d.l.length<=2:=by cases w.d<;>decide
 show R.Al (loop (fs aA (n+137+22)) _ _ l1 (aH (iW w) false (LS.head w.kd w.r) (left+58+k1) []) _) _ _;rw[show left+58+k1=(left+58+k1 - w.d.l.length)+w.d.l.length from QL hd2];refine nF (iW w) false (n+137) w.d.l (LS.head w.kd w.r) _ l1 q1.facts λl2 hk2=>?_;have q2:ED l2:=q1.of λx hx=>hk2 x (by rcases hx with rfl|rfl|rfl|rfl<;>decide)
 refine IF (n:=n+160) ?_;obtain⟨k2,hk2⟩:∃k2,left+58+k1 - w.d.l.length=left+40+k2+2 * w.sp.length:=QM hd2 h7;rw[hk2];refine gc (n:=n+159) (aG (aq q2.raw (dO _)) (ao (v:=.ref 2) (g:=aH (iW w) false ((LS.head w.kd w.r).tH w.d.l) (left+40+k2+2 * w.sp.length) []) (by kernel_rfl) ⟨iS w.imp w.sp,rfl,?_⟩))
 show R.Al (loop (fs aA (n+96+63)) _ _ l2 (aH (iW w) false ((LS.head w.kd w.r).tH w.d.l) (left+40+k2+2 * w.sp.length) [2]) _) _ _;refine tF (iW w) w.imp (n+96) w.sp _ _ l2 q2.facts q2.told q2.letter λleft3 l3 hle3 hk3=>?_;have q3:ED l3:=q2.of λx hx=>hk3 x (by rcases hx with rfl|rfl|rfl|rfl<;>decide) (by rcases hx with rfl|rfl|rfl|rfl<;>decide)
 obtain⟨k3,rfl⟩:∃k3,left3=left+35+k3+2:=QN hle3;refine IF (n:=n+160) (gc (n:=n+159) (aG (aq q3.raw (dO _)) (ao (v:=.ref 3) (g:=aH (iW w) w.imp (((LS.head w.kd w.r).tH w.d.l).specs w.qg) (left+35+k3+2) []) (by kernel_rfl) ⟨lR w.stf,rfl,?_⟩)))
 show R.Al (loop (fs aA (n+137+22)) _ _ l3 (aH (iW w) w.imp (((LS.head w.kd w.r).tH w.d.l).specs w.qg) (left+35+k3+2) [3]) _) _ _;refine wG (iW w) w.imp _ _ (n+137) w.stf l3 q3.facts λleft4 l4 hle4 hk4=>?_;have q4:ED l4:=q3.of λx hx=>hk4 x (by rcases hx with rfl|rfl|rfl|rfl<;>decide) (by rcases hx with rfl|rfl|rfl|rfl<;>decide) (by rcases hx with rfl|rfl|rfl|rfl<;>decide) (by rcases hx with rfl|rfl|rfl|rfl<;>decide)
 obtain⟨k4,rfl⟩:∃k4,left4=left+20+k4+3 * w.bd.length:=QO hle4 h3;refine IF (n:=n+160) (gc (n:=n+159) (aG (aq q4.raw (dO _)) (ao (v:=.ref 4) (g:=aH (iW w) w.imp ((((LS.head w.kd w.r).tH w.d.l).specs w.qg).stf w.stf) (left+20+k4+3 * w.bd.length) []) (by kernel_rfl) ⟨Tg w.bd,rfl,?_⟩)))
 show R.Al (loop (fs aA (n+97+62)) _ _ l4 (aH (iW w) w.imp ((((LS.head w.kd w.r).tH w.d.l).specs w.qg).stf w.stf) (left+20+k4+3 * w.bd.length) [4]) _) _ _;refine lW (iW w) w.imp (n+97) w.bd _ _ l4 q4.facts λleft5 l5 hle5 hk5=>?_;have q5:ED l5:=q4.of λx hx=>hk5 x (by rcases hx with rfl|rfl|rfl|rfl<;>decide) (by rcases hx with rfl|rfl|rfl|rfl<;>decide) (by rcases hx with rfl|rfl|rfl|rfl<;>decide)
 obtain⟨k5,rfl⟩:∃k5,left5=k5+20:=QS hle5;exact IF (n:=n+160) (AW (left:=k5) (n:=n) hw h7 pl q5)
noncomputable def uO:List Int:=[1,2,0,1,0,2,3,2,1,1,5,3,1,2,0,1,3]
noncomputable def bk(L:List Int):List V:=L.map V.int
theorem Lm(g:G)(n:Nat):(fs aA (n+20)).e [] g (.call (.glob 1760250341483069404020) [])=.ok (.lst (bk uO)) g:=by kernel_rfl
theorem uP(d k:Nat):bound d (.int (k:Nat))=some k:=by
 show(match decide ((0:Int)<=(k:Nat))with|true=>some ((k:Nat):Int).toNat|false=>none)=_
 rw[decide_eq_true (Int.natCast_nonneg k)];rfl
theorem D8(g:G)(L:List Int)(k:Nat):slice g (.lst (bk L)) .none (.int (k:Nat))=some (.lst (bk (L.take k))):=by show(bound 0 .none).bind (λx=>(bound (bk L).length (.int (k:Nat))).map λy=>V.lst (cut (bk L) x y))=_;rw[uP];show some (V.lst (cut (bk L) 0 k))=_;unfold cut bk;rw[List.drop_zero,List.map_take]
theorem zo(g:G)(L:List Int)(k:Nat):slice g (.lst (bk L)) (.int (k:Nat)) .none=some (.lst (bk (L.drop k))):=by show(bound 0 (.int (k:Nat))).bind (λx=>(bound (bk L).length .none).map λy=>V.lst (cut (bk L) x y))=_;rw[uP];show some (V.lst (cut (bk L) k (bk L).length))=_;unfold cut bk;rw[List.take_length,List.map_drop]
theorem HV(g:G)(A B:List Int)(h:A.length+B.length<=1000):S6 g 0 (.lst (bk A)) (.lst (bk B))=some (.lst (bk (A++B))):=by
 show(match Nat.ble ((bk A).length+(bk B).length) big with
   |true=>some (V.lst (bk A++bk B))
   |false=>none)=_
 unfold bk;rw[List.length_map,List.length_map,Nat.ble_eq_true_of_le (show A.length+B.length<=big from Nat.le_trans h (by decide)),List.map_append]
theorem oW:∀L:List Int,TH (bk L)=true
 |[]=>rfl
 |_::L=>oW L
theorem Oh(left:Nat)(x:Int)(L:List Int)(h:L.length<=1000):Ur (g0 left) [.lst (bk (x::L)),.int 0]=.ok (.ref 0) (bM .free .free .free .free left):=by
 show(match TH (bk (x::L)),Nat.ble (bk L).length 1000 with
  |true,true=>(g0 left).alloc 0 .pen
  |_,_=>.st)=_
 rw[oW,show(bk L).length=L.length from by unfold bk;rw[List.length_map],Nat.ble_eq_true_of_le h]
 rfl
theorem D9{C:Cfg}{n:Nat}{l:Loc}{g:G}{x a:Nat}{es:List ME}{P:V->G->Prop}{Ψ:Prop}(h1:aT C.gt x=some (.fn a))(h2:SP C a=true)(q:(evs (fs C (n+1)) l g es).Al (λvs g=>((fs C (n+1)).c g (.fn a) vs).Al P Ψ) Ψ):((fs C (n+2)).e l g (.call (.glob x) es)).Al P Ψ:=by
 refine R.Al.bind.mpr (nH (n:=n) h1 ?_);show(match SP C a with
   |true=>(evs (fs C (n+1)) l g es).bind λvs g=>(fs C (n+1)).c g (.fn a) vs
   |false=>.st:R V).Al P Ψ
 rw[h2];exact R.Al.bind.mpr q
theorem HW{C:Cfg}{n:Nat}{l:Loc}{g:G}{es:List ME}{P:V->G->Prop}{Ψ:Prop}(h:(evs (fs C n) l g es).Al (λvs g=>(Ur g vs).Al P Ψ) Ψ):((fs C (n+1)).e l g (.lst 2 es)).Al P Ψ:=R.Al.bind.mpr h
noncomputable def HX:List MS:=[.asg 115 (.slice (.loc 126870958469236) none (some (.int 40))),.asg 7496055 (.call (.glob 6875977896418238839) [.lst 2 [.bin 0 (.loc 115) (.slice (.call (.glob 1760250341483069404020) []) (some (.len (.loc 115))) none),.int 0]]),.asg 439720572019 (.facts),.asg 1953459300 (.dict 14 []),.asg 119183001281906 (.dict 15 [])]
theorem Oi:TJ=HX++([G8,MI,HU,PR,MJ]++Og):=by kernel_rfl
theorem Ln(hP:∀w:Raw,w.ok=true->w.sp.length<=7->w.bd.length<=3->∃F,HQ w F)(L:List Int)(left n:Nat):
  (blk (fs aA (n+160)) [(dw,.lst (bk L))] (g0 (left+72)) TJ).Al dR False:=by
 rw[Oi];refine aZ (n:=n+159) (rP (n:=n+158) (aD (n:=n+157) rfl (ao (v:=.int (40:Nat)) (g:=g0 (left+72)) (by kernel_rfl) ⟨_,D8 _ L 40,?_⟩)))
 have s1:aT (bY [(dw,.lst (bk L))] 115 (.lst (bk (L.take 40)))) 115=some (.lst (bk (L.take 40))):=au _ _ _;have hlen:(L.take 40).length<=40:=by rw[List.length_take];exact Nat.min_le_left ..
 refine aZ (n:=n+159) (D9 (n:=n+157) rfl rfl (aI (HW (n:=n+157) (aI (jT (n:=n+156) (aD (n:=n+155) s1 (oM (n:=n+155) (aG (dO _) (ao (Lm (g0 (left+72)) (n+135)) ?_)))))))));have hl2:(bk (L.take 40)).length=(L.take 40).length:=by unfold bk;rw[List.length_map]
 have e1:((fs aA (n+155)).e (bY [(dw,.lst (bk L))] 115 (.lst (bk (L.take 40)))) (g0 (left+72)) (.len (.loc 115)))=.ok (.int ((L.take 40).length:Nat)) (g0 (left+72)):=by rw[<- hl2];kernel_rfl
 have hr:((L.take 40)++uO.drop (L.take 40).length).length<=57:=by rw[List.length_append,List.length_drop,show uO.length=17 from rfl];exact Nat.add_le_add hlen (Nat.sub_le 17 _)
 refine ao e1 ⟨_,zo _ uO _,_,HV _ _ _ (by rw[<- List.length_append];exact l8 hr rfl),?_⟩
 refine aI (ao (v:=.int 0) (g:=g0 (left+72)) (by kernel_rfl) (c8 ?_))
 cases e:(L.take 40)++uO.drop (L.take 40).length with
 |nil=>have:=congrArg List.length e;rw[List.length_append,List.length_drop,show uO.length=17 from rfl]at this;have:(L.take 40).length+(17 - (L.take 40).length)=0:=this;exact(Sg this).elim
 |cons x M=>
  rw[e]at hr;refine SM (Oh (left+72) x M (l8 (Nat.le_of_succ_le hr) rfl)) (bu (c8 ?_));refine AP (n:=n+107) (left:=left+60) λw hw hb left' hle=>?_;obtain⟨F,pl⟩:=hP w hw hb.1 hb.2;refine aZ (n:=n+159) (ao (HR w left' (n+154) _) ?_);refine aZ (n:=n+159) (ao (Lj w left' (n+154) _) ?_);refine aZ (n:=n+159) (ao (D6 w left' (n+154) _) ?_);obtain⟨k,rfl⟩:∃k,left'=k+60:=QI hle;refine wO hw hb.1 hb.2 pl ⟨?_,?_,?_,?_⟩
  ·exact(aa _ _ (by decide)).trans ((aa _ _ (by decide)).trans ((aa _ _ (by decide)).trans (au _ _ _)))
  ·exact(aa _ _ (by decide)).trans ((aa _ _ (by decide)).trans (au _ _ _))
  ·exact(aa _ _ (by decide)).trans (au _ _ _)
  ·exact au _ _ _
set_option genCtorIdx true in
inductive W where
 |result|type|dummy|dims|common|param|external|aB|save|aU|applied|called|met|asked
 deriving DecidableEq
noncomputable def W.s:W->S
 | .result=>wB| .type=>jX| .dummy=>d7| .dims=>jY| .common=>ir| .param=>bG| .external=>cC| .aB=>bQ
 | .save=>pq| .aU=>jS| .applied=>g5| .called=>lK| .met=>AG| .asked=>gO
noncomputable def Ri:List W:=[.result,.type,.dummy,.dims,.common,.param,.external,.aB,.save,.aU,.applied,.called,.met,.asked]
noncomputable def wOf(s:S):Option W:=Ri.find? λw=>As w.s s
theorem MK(a:W):wOf a.s=some a:=by cases a<;>rfl
theorem W.inj{a b:W}(h:a.s=b.s):a=b:=by have:=MK a;rw[h,MK b]at this;exact(Option.some.inj this).symm
theorem r8(a b:W):As a.s b.s=decide (a=b):=by
 cases h:As a.s b.s with
 |true=>rw[decide_eq_true (W.inj (cY.mp h))]
 |false=>
  have:a≠b:=λe=>by rw[e,wM]at h;cases h
  rw[decide_eq_false this]
noncomputable def eB(L:List W):List S:=L.map W.s
theorem fQ(w:W)(L:List W):mem w.s (eB L)=decide (w∈L):=by
 unfold mem eB;induction L with
 |nil=>rfl
 |cons a L ih=>
  rw[List.map_cons,List.any_cons,ih,r8];by_cases h:w=a
  ·subst h;simp
  ·simp [h]
noncomputable def Th(a b:W):Bool:=S5 a.s b.s
theorem ML{x y:S}(h:x≠y):As x y=false:=by
 cases e:As x y with
 |true=>exact absurd (cY.mp e) h
 |false=>rfl
theorem zq(x y:S):S5 x y=S5 y x:=by
 unfold S5;by_cases h:x=y
 ·subst h;rfl
 ·rw[ML h,ML (Ne.symm h),Bool.or_comm (bar x y),Bool.false_and,Bool.false_and]
theorem kT(a b:W):Th a b=Th b a:=zq _ _
theorem pJ:∀(suf pre:List S),SQ pre suf=false↔(∀x∈pre,∀y∈suf,S5 x y=false)/\suf.Pairwise (λx y=>S5 x y=false)
 |[],pre=>⟨λ_=>⟨λ_ _ _ h=>(nomatch h),.nil⟩,λ_=>rfl⟩
 |y::suf,pre=>by
  unfold SQ;rw[Bool.or_eq_false_iff,pJ suf (pre++[y]),List.pairwise_cons];constructor
  ·rintro ⟨h1,h2,h3⟩
   have h1':∀x∈pre,S5 x y=false:=λx hx=>by
    cases e:S5 x y with
    |false=>rfl
    |true=>rw[List.any_eq_true.mpr ⟨x,hx,e⟩]at h1;cases h1
   refine⟨λx hx z hz=>?_,λz hz=>h2 y (List.mem_append_right _ (.head _)) z hz,h3⟩;rcases List.mem_cons.mp hz with rfl|hz
   ·exact h1' x hx
   ·exact h2 x (List.mem_append_left _ hx) z hz
  ·rintro ⟨h1,h2,h3⟩
   refine⟨?_,λx hx z hz=>?_,h3⟩
   ·rw[List.any_eq_false];intro x hx;rw[h1 x hx y (.head _)];decide
   ·rcases List.mem_append.mp hx with hx|hx
    ·exact h1 x hx z (.tail _ hz)
    ·rw[List.mem_singleton.mp hx];exact h2 z hz
noncomputable def ia(L:List W):Prop:=L.Pairwise (λa b=>Th a b=false)
noncomputable def kU(L:List W):Prop:=L.Pairwise (λa b=>¬(a=.param/\b=.type))
theorem r9(L:List W):SQ [] (eB L)=false↔ia L:=by rw[pJ];unfold eB ia;rw[List.pairwise_map];exact⟨λh=>h.2,λh=>⟨λ_ h=>(nomatch h),h⟩⟩
theorem AX:∀(L:List W),eW (eB L)=false↔kU L
 |[]=>⟨λ_=>.nil,λ_=>rfl⟩
 |w::L=>by
  unfold kU;rw[List.pairwise_cons];by_cases h:w=.param
  ·subst h;have e1:eW (eB (.param::L))=decide (W.type∈W.param::L):=by
    unfold eW;rw[show mem bG (eB (.param::L))=true from(fQ .param (.param::L)).trans (by simp)]
    have:tK (eB (.param::L)) bG=0:=rfl;rw[this,List.drop_zero,Bool.true_and];exact fQ .type (.param::L)
   rw[e1,decide_eq_false_iff_not];constructor
   ·intro h;have h1:W.type∉L:=λq=>h (.tail _ q);exact⟨λb hb q=>h1 (q.2▸hb),List.pairwise_of_forall_mem_list λa ha b hb q=>h1 (q.2▸hb)⟩
   ·rintro ⟨h1,_⟩ q
    rcases List.mem_cons.mp q with q|q
    ·cases q
    ·exact h1 _ q ⟨rfl,rfl⟩
  ·have e1:eW (eB (w::L))=eW (eB L):=by
    unfold eW;have hne:As w.s bG=false:=(r8 w .param).trans (decide_eq_false h);have a1:mem bG (eB (w::L))=mem bG (eB L):=by rw[show bG=W.s .param from rfl,fQ,fQ];simp [Ne.symm h]
    have a2:tK (eB (w::L)) bG=tK (eB L) bG+1:=by
     show(match As w.s bG with|true=>0|false=>tK (eB L) bG+1)=_
     rw[hne]
    rw[a1,a2];rfl
   rw[e1,AX L];exact⟨λq=>⟨λb _ k=>h k.1,q⟩,λq=>q.2⟩
noncomputable def U1:List (W×W):=[(.dims,.param),(.dims,.external),(.dims,.aB),(.dims,.aU),(.dims,.called),(.dims,.result),(.common,.param),(.common,.external),(.common,.aB),(.common,.aU),(.common,.asked),(.common,.called),(.common,.dummy),(.common,.save),(.common,.result),(.param,.external),(.param,.aB),(.param,.aU),(.param,.asked),(.param,.called),(.param,.dummy),(.param,.save),(.param,.result),(.external,.aB),(.external,.aU),(.external,.save),(.external,.result),(.aB,.aU),(.aB,.save),(.aB,.dummy),(.aB,.called),(.aB,.result),(.aU,.dummy),(.aU,.save),(.aU,.called),(.aU,.result),(.asked,.called),(.asked,.save),(.asked,.result),(.called,.type),(.called,.save),(.called,.result),(.save,.dummy),(.save,.result),(.dummy,.result),(.aU,.aU),(.applied,.result)]
theorem HY:zb=U1.map λp=>(p.1.s,p.2.s):=by kernel_rfl
noncomputable def wQ(a b:W):Bool:=U1.any λp=>decide (p.1=a)&&decide (p.2=b)
theorem MM(a b:W):bar a.s b.s=wQ a b:=by unfold bar wQ;rw[HY,List.any_map];refine congrArg (List.any U1) (funext λp=>?_);show(As p.1.s a.s&&As p.2.s b.s)=_;rw[r8,r8]
noncomputable def uQ:W->Bool
 | .type=>true| .dims=>true| .common=>true| .param=>true| .external=>true| .aB=>true|_=>false
theorem Oj(a:W):Vk a.s=uQ a:=by cases a<;>kernel_rfl
theorem fR(a b:W):Th a b=((decide (a=b)&&uQ a)||(wQ a b||wQ b a)):=by unfold Th S5;rw[r8,Oj,MM,MM]
theorem se(a:W):Th a a=(uQ a||decide (a=.aU)):=by rw[fR];cases a<;>rfl
noncomputable def S7(m:W->Bool):Bool:=U1.any λp=>!decide (p.1=p.2)&&(m p.1&&m p.2)
theorem wR{m:W->Bool}(h:S7 m=false){a b:W}(hn:a≠b)(ha:m a=true)(hb:m b=true):Th a b=false:=by
 have key:∀a b:W,a≠b->m a=true->m b=true->wQ a b=false:=λa b hn ha hb=>by unfold wQ;rw[List.any_eq_false];intro p hp q;rw[Bool.and_eq_true,decide_eq_true_eq,decide_eq_true_eq]at q;have:=List.any_eq_false.mp h p hp;rw[q.1,q.2,ha,hb,decide_eq_false hn]at this;exact this rfl
 rw[fR,decide_eq_false hn,key a b hn ha hb,key b a (Ne.symm hn) hb ha];rfl
theorem zu{m:W->Bool}(h:S7 m=true):∃a b,a≠b/\m a=true/\m b=true/\Th a b=true:=by
 obtain⟨p,hp,q⟩:=List.any_eq_true.mp h;rw[Bool.and_eq_true,Bool.and_eq_true,Bool.not_eq_true',decide_eq_false_iff_not]at q;refine⟨p.1,p.2,q.1,q.2.1,q.2.2,?_⟩;have:wQ p.1 p.2=true:=List.any_eq_true.mpr ⟨p,hp,by rw[decide_eq_true rfl,decide_eq_true rfl];rfl⟩
 rw[fR,this];simp
theorem mD{L:List W}(h:ia L):∀{a b:W},a≠b->a∈L->b∈L->Th a b=false:=by
 unfold ia at h;induction L with
 |nil=>intro a b _ h;cases h
 |cons x L ih=>
  rw[List.pairwise_cons]at h;intro a b hn ha hb;rcases List.mem_cons.mp ha with rfl|ha
  ·rcases List.mem_cons.mp hb with rfl|hb
   ·exact absurd rfl hn
   ·exact h.1 b hb
  ·rcases List.mem_cons.mp hb with q|hb
   ·rw[kT,q];exact h.1 a ha
   ·exact ih h.2 hn ha hb
noncomputable def mF(L:List W):Prop:=L.Pairwise (λa b=>a=b->Th a b=false)
theorem Ea{L:List W}{m:W->Bool}(hm:∀w∈L,w≠.met->m w=true)(h2:mF L)(h:S7 m=false):ia L:=by
 refine List.Pairwise.imp_of_mem (λ{a b} ha hb hab=>?_) h2;by_cases e:a=b
 ·exact hab e
 ·by_cases e1:a=.met
  ·subst e1;rw[fR,decide_eq_false e];cases b<;>rfl
  ·by_cases e2:b=.met
   ·subst e2;rw[fR,decide_eq_false e];cases a<;>rfl
   ·exact wR h e (hm a ha e1) (hm b hb e2)
set_option genCtorIdx true in
inductive Ev where
 |res|bF|ty (k:Kl)|dim (d:Dm)|fV (c:Cm)|par|ext|int|d9|stf|met|app|OO
noncomputable def Ev.w:Ev->W
 | .res=>.result| .bF=>.dummy| .ty _=>.type| .dim _=>.dims| .fV _=>.common| .par=>.param| .ext=>.external| .int=>.aB| .d9=>.save| .stf=>.aU| .met=>.met| .app=>.applied| .OO=>.called
noncomputable def Rj:Dm->Bool
 | .d0=>false|_=>true
noncomputable def Qz:Option Cm->Bool
 |some .no=>false|_=>true
noncomputable def Ev.ok:Ev->Bool
 | .dim d=>Rj d| .fV c=>Qz (some c)|_=>true
set_option genCtorIdx true in
inductive U where
 |var (c:Option Cm)|arr (d:Dm) (c:Option Cm)|par (v:Vl)|proc|intr|stf
structure Q where
 u:U
 ty:Option Kl
 res:Bool
 bF:Bool
 d9:Bool
 ap:Bool
 ca:Bool
 any:Bool
noncomputable def Q0:Q:=⟨.var none,none,false,false,false,false,false,false⟩
noncomputable def U.dm:U->Option Dm
 | .arr d _=>some d|_=>none
noncomputable def U.cm:U->Option Cm
 | .var c=>c| .arr _ c=>c|_=>none
noncomputable def U.HZ:U->Bool
 | .par _=>true|_=>false
noncomputable def U.ie:U->Bool
 | .proc=>true|_=>false
noncomputable def U.mG:U->Bool
 | .intr=>true|_=>false
noncomputable def U.uR:U->Bool
 | .stf=>true|_=>false
noncomputable def Q.step(n:Nm)(imp:Bool)(q:Q):Ev->Option Q
 | .res=>match q.bF with
  |true=>none
  |false=>some {q with res:=true,any:=true}
 | .bF=>match q.res with
  |true=>none
  |false=>some {q with bF:=true,any:=true}
 | .ty k=>match q.ty with
  |some _=>none
  |none=>match q.u with
   | .par _=>none
   |_=>some {q with ty:=some k,any:=true}
 | .dim d=>match q.u with
  | .var c=>some {q with u:=.arr d c,any:=true}
  |_=>none
 | .fV c=>match q.u with
  | .var none=>some {q with u:=.var (some c),any:=true}
  | .arr d none=>some {q with u:=.arr d (some c),any:=true}
  |_=>none
 | .par=>match q.u with
  | .var none=>match gJ (SD n imp q.ty)with
   |some v=>some {q with u:=.par v,any:=true}
   |none=>none
  |_=>none
 | .ext=>match q.u with
  | .var none=>some {q with u:=.proc,any:=true}
  |_=>none
 | .int=>match q.u with
  | .var none=>match n.isI with
   |true=>some {q with u:=.intr,any:=true}
   |false=>none
  |_=>none
 | .d9=>some {q with d9:=true,any:=true}
 | .stf=>match q.u with
  | .var none=>match q.bF with
   |true=>none
   |false=>some {q with u:=.stf,any:=true}
  |_=>none
 | .met=>some {q with any:=true}
 | .app=>some {q with ap:=true,any:=true}
 | .OO=>some {q with ca:=true,any:=true}
noncomputable def Q.mask(q:Q):W->Bool
 | .result=>q.res| .type=>q.ty.isSome| .dummy=>q.bF| .dims=>q.u.dm.isSome| .common=>q.u.cm.isSome| .param=>q.u.HZ| .external=>q.u.ie| .aB=>q.u.mG
 | .save=>q.d9| .aU=>q.u.uR| .applied=>q.ap| .called=>q.ca| .met=>false| .asked=>false
noncomputable def Eb(o:Option Kl):Ev->Option Kl
 | .ty k=>some k|_=>o
noncomputable def Ec(o:Option Dm):Ev->Option Dm
 | .dim d=>some d|_=>o
noncomputable def Ed(o:Option Cm):Ev->Option Cm
 | .fV c=>some c|_=>o
noncomputable def Ti(E:List Ev):Option Kl:=E.foldl Eb none
noncomputable def Tt(E:List Ev):Option Dm:=E.foldl Ec none
noncomputable def TP(E:List Ev):Option Cm:=E.foldl Ed none
theorem jd(E:List Ev)(e:Ev):Ti (E++[e])=Eb (Ti E) e:=by unfold Ti;rw[List.foldl_append];rfl
theorem pK(E:List Ev)(e:Ev):Tt (E++[e])=Ec (Tt E) e:=by unfold Tt;rw[List.foldl_append];rfl
theorem pL(E:List Ev)(e:Ev):TP (E++[e])=Ed (TP E) e:=by unfold TP;rw[List.foldl_append];rfl
noncomputable def ws(E:List Ev):List W:=E.map Ev.w
theorem fG(E:List Ev)(e:Ev):ws (E++[e])=ws E++[e.w]:=by unfold ws;rw[List.map_append];rfl
noncomputable def okU(u:U)(k:Kl)(i:Bool):Bool:=match u with
 | .par v=>decide (gJ k=some v)
 | .intr=>i
 | .arr d c=>Rj d&&Qz c
 | .var c=>Qz c
 |_=>true
structure g6(n:Nm)(imp:Bool)(q:Q)(E:List Ev):Prop where
 ty:Ti E=q.ty
 dm:Tt E=q.u.dm
 cm:TP E=q.u.cm
 mask:∀w,w≠.met->(w∈ws E↔q.mask w=true)
 any:q.any=!E.isEmpty
 nd:mF (ws E)
 pt:kU (ws E)
 wf:okU q.u (SD n imp q.ty) n.isI=true
 RB:q.any=false->q=Q0
 xj:(q.res&&q.bF)=false
noncomputable def U3{α:Type}(f:W->α):List α:=[f .result,f .type,f .dummy,f .dims,f .common,f .param,f .external,f .aB,f .save,f .aU,f .applied,f .called,f .asked]
noncomputable def W.n:W->Nat
 | .result=>0| .type=>1| .dummy=>2| .dims=>3| .common=>4| .param=>5| .external=>6| .aB=>7| .save=>8| .aU=>9| .applied=>10| .called=>11| .asked=>12| .met=>13
theorem zw{f g:W->Bool}(h:U3 f=U3 g)(w:W)(hw:w≠.met):f w=g w:=by have h:=congrArg (λl=>l.getD w.n true) h;cases w<;>first|exact h|exact absurd rfl hw
theorem H6(n:Nm)(imp:Bool):g6 n imp Q0 []:=
 ⟨rfl,rfl,rfl,λw hw=>⟨λh=>(nomatch h),λh=>nomatch (zw (f:=Q0.mask) (g:=λ_=>false) rfl w hw).symm.trans h⟩,rfl,.nil,.nil,rfl,λ_=>rfl,rfl⟩
theorem pM{L:List W}{w:W}(h:mF L)(hw:Th w w=true->w∉L):mF (L++[w]):=by
 unfold mF;rw[List.pairwise_append];refine⟨h,List.pairwise_singleton _ _,λa ha b hb e=>?_⟩;rw[List.mem_singleton.mp hb]at e ⊢;subst e;cases q:Th a a with
 |false=>rfl
 |true=>exact absurd ha (hw q)
theorem uS{L:List W}{w:W}(h:kU L)(hw:w=.type->W.param∉L):kU (L++[w]):=by unfold kU;rw[List.pairwise_append];refine⟨h,List.pairwise_singleton _ _,λa ha b hb e=>?_⟩;rw[List.mem_singleton.mp hb]at e;exact hw e.2 (e.1▸ha)
noncomputable def W.PT(w:W):Bool:=Nat.beq w.n 1
theorem cF{n:Nm}{imp:Bool}{q q':Q}{E:List Ev}{e:Ev}(h:g6 n imp q E)
  (k:(q'.ty,q'.u.dm,q'.u.cm,q'.any,false,false,U3 q'.mask)=(Eb q.ty e,Ec q.u.dm e,Ed q.u.cm e,true,(uQ e.w||decide (e.w=.aU))&&q.mask e.w,e.w.PT&&q.mask .param,U3 λw=>As e.w.s w.s||q.mask w))
  (wf:okU q'.u (SD n imp q'.ty) n.isI=true) (xj:(q'.res&&q'.bF)=false):g6 n imp q' (E++[e]):=by
 have ha:q'.any=true:=congrArg (·.2.2.2.1) k
 have hm:∀w,w≠.met->(q'.mask w=true↔q.mask w=true\/w=e.w):=λw hw=>by
  rw[zw (f:=q'.mask) (g:=λw=>As e.w.s w.s||q.mask w) (congrArg (·.2.2.2.2.2.2) k) w hw,Bool.or_eq_true,cY,or_comm]
  exact or_congr_right ⟨λq=>(W.inj q).symm,λq=>q▸rfl⟩
 refine⟨?_,?_,?_,λw hw=>?_,?_,?_,?_,wf,λq=>(nomatch ha.symm.trans q),xj⟩
 ·rw[jd,h.ty];exact(congrArg (·.1) k).symm
 ·rw[pK,h.dm];exact(congrArg (·.2.1) k).symm
 ·rw[pL,h.cm];exact(congrArg (·.2.2.1) k).symm
 ·rw[fG,List.mem_append,List.mem_singleton,h.mask w hw,hm w hw]
 ·rw[ha];cases E<;>rfl
 ·rw[fG];refine pM h.nd λc hc=>?_;rw[se]at c;have hne:e.w≠.met:=λq=>by rw[q]at c;exact nomatch c
  have k:false=((uQ e.w||decide (e.w=.aU))&&q.mask e.w):=congrArg (·.2.2.2.2.1) k
  rw[c,(h.mask _ hne).mp hc]at k;exact nomatch k
 ·rw[fG];refine uS h.pt λc hc=>?_;have k:false=(e.w.PT&&q.mask .param):=congrArg (·.2.2.2.2.2.1) k
  rw[c,(h.mask .param (λq=>nomatch q)).mp hc]at k;exact nomatch k
noncomputable def AY(n:Nm)(imp:Bool)(E:List Ev)(e:Ev):Option Q->Prop
 |none=>True
 |some q'=>g6 n imp q' (E++[e])
theorem Lo{n:Nm}{imp:Bool}{q:Q}{E:List Ev}{e:Ev}(h:g6 n imp q E)(ok:e.ok=true):AY n imp E e (q.step n imp e):=by
 have wf:=h.wf;have xj:=h.xj;obtain⟨u,ty,res,bF,d9,ap,ca,any⟩:=q;cases e with
 |res=>cases bF<;>first|exact trivial|exact cF h rfl wf rfl
 |bF=>cases res<;>first|exact trivial|exact cF h rfl wf rfl
 |d9=>exact cF h rfl wf xj
 |met=>exact cF h rfl wf xj
 |app=>exact cF h rfl wf xj
 |OO=>exact cF h rfl wf xj
 |ty k=>cases ty<;>first|exact trivial|(cases u<;>first|exact trivial|exact cF h rfl wf xj)
 |dim d=>cases u<;>first|exact trivial|exact cF h rfl (kj ok wf) xj
 |fV c=>
  cases u with
  |var o=>cases o<;>first|exact trivial|exact cF h rfl ok xj
  |arr d o=>cases o<;>first|exact trivial|exact cF h rfl (kj (aj wf) ok) xj
  |_=>exact trivial
 |par=>
  cases u with
  |var o=>
   cases o with
   |some _=>exact trivial
   |none=>
    refine(?_:AY n imp E .par (match gJ (SD n imp ty)with
     |some v=>some (⟨.par v,ty,res,bF,d9,ap,ca,true⟩:Q)
     |none=>none))
    cases e:gJ (SD n imp ty)with
    |none=>exact trivial
    |some v=>exact cF h rfl (decide_eq_true e) xj
  |_=>exact trivial
 |ext=>
  cases u with
  |var o=>cases o<;>first|exact trivial|exact cF h rfl rfl xj
  |_=>exact trivial
 |int=>
  cases u with
  |var o=>
   cases o with
   |some _=>exact trivial
   |none=>
    refine(?_:AY n imp E .int (match n.isI with
     |true=>some (⟨.intr,ty,res,bF,d9,ap,ca,true⟩:Q)
     |false=>none))
    cases e:n.isI with
    |false=>exact trivial
    |true=>exact cF h rfl e xj
  |_=>exact trivial
 |stf=>
  cases u with
  |var o=>
   cases o with
   |some _=>exact trivial
   |none=>cases bF<;>first|exact trivial|exact cF h rfl rfl xj
  |_=>exact trivial
theorem zx{n:Nm}{imp:Bool}{q q':Q}{E:List Ev}{e:Ev}(h:g6 n imp q E)(ok:e.ok=true)(hs:q.step n imp e=some q'):g6 n imp q' (E++[e]):=by have:=Lo h ok;rw[hs]at this;exact this
inductive wU(n:Nm)(imp:Bool)(E:List Ev):Prop where
 |pair (h:¬ia (ws E))
 |pt (h:¬kU (ws E))
 |intr (h:W.aB∈ws E) (k:n.isI=false)
 |par (h:W.param∈ws E) (k:gJ (SD n imp (Ti E))=none)
theorem Ef{n:Nm}{imp:Bool}{E:List Ev}(e:Ev)(h:wU n imp E):wU n imp (E++[e]):=by
 have sub:∀{w:W},w∈ws E->w∈ws (E++[e]):=λh=>by rw[fG];exact List.mem_append_left _ h
 cases h with
 |pair h=>exact .pair λq=>h (by rw[fG]at q;exact(List.pairwise_append.mp q).1)
 |pt h=>exact .pt λq=>h (by rw[fG]at q;exact(List.pairwise_append.mp q).1)
 |intr h k=>exact .intr (sub h) k
 |par h k=>
  by_cases c:∃k',e=.ty k'
  ·obtain⟨k',rfl⟩:=c;refine .pt λq=>?_;rw[fG]at q;exact(List.pairwise_append.mp q).2.2 _ h _ (.head _) ⟨rfl,rfl⟩
  ·refine .par (sub h) ?_;rw[jd];cases e<;>first|exact k|exact absurd ⟨_,rfl⟩ c
theorem zz{n:Nm}{imp:Bool}:∀(E':List Ev){E:List Ev},wU n imp E->wU n imp (E++E')
 |[],E,h=>by rw[List.append_nil];exact h
 |e::r,E,h=>by have:=zz r (Ef e h);rw[List.append_assoc]at this;exact this
theorem bx{n:Nm}{imp:Bool}{q:Q}{E:List Ev}{e:Ev}(h:g6 n imp q E)(w:W)(k:((!Nat.beq w.n 13&&q.mask w)&&((decide (w=e.w)&&uQ w)||(wQ w e.w||wQ e.w w)))=true):wU n imp (E++[e]):=by
 rw[<- fR,Bool.and_eq_true,Bool.and_eq_true]at k;refine .pair λp=>?_;rw[fG]at p;have:=(List.pairwise_append.mp p).2.2 w ((h.mask w λe=>by rw[e]at k;exact nomatch k.1.1).mpr k.1.2) _ (.head _)
 exact nomatch k.2.symm.trans this
noncomputable def wV(n:Nm)(imp:Bool)(E:List Ev)(e:Ev):Option Q->Prop
 |none=>wU n imp (E++[e])
 |some _=>True
theorem Lp{n:Nm}{imp:Bool}{q:Q}{E:List Ev}{e:Ev}(h:g6 n imp q E):wV n imp E e (q.step n imp e):=by
 obtain⟨u,ty,res,bF,d9,ap,ca,any⟩:=q;cases e with
 |res=>cases bF<;>first|exact trivial|exact bx h .dummy rfl
 |bF=>cases res<;>first|exact trivial|exact bx h .result rfl
 |ty k=>
  cases ty with
  |some k'=>exact bx h .type rfl
  |none=>
   cases u<;>first|exact trivial|skip
   refine .pt λq=>?_;rw[fG]at q;exact(List.pairwise_append.mp q).2.2 .param ((h.mask .param (λq=>nomatch q)).mpr rfl) _ (.head _) ⟨rfl,rfl⟩
 |dim d=>cases u<;>first|exact trivial|exact bx h .dims rfl|exact bx h .param rfl|exact bx h .external rfl|exact bx h .aB rfl|exact bx h .aU rfl
 |fV c=>
  cases u with
  |var o=>cases o<;>first|exact trivial|exact bx h .common rfl
  |arr d o=>cases o<;>first|exact trivial|exact bx h .common rfl
  |par v=>exact bx h .param rfl
  |proc=>exact bx h .external rfl
  |intr=>exact bx h .aB rfl
  |stf=>exact bx h .aU rfl
 |par=>
  cases u with
  |var o=>
   cases o with
   |none=>
    refine(?_:wV n imp E .par (match gJ (SD n imp ty)with
     |some v=>some (⟨.par v,ty,res,bF,d9,ap,ca,true⟩:Q)
     |none=>none))
    cases e:gJ (SD n imp ty)with
    |some v=>exact trivial
    |none=>
     refine .par (by rw[fG];exact List.mem_append_right _ (.head _)) ?_
     rw[jd,h.ty];exact e
   |some _=>exact bx h .common rfl
  |arr d o=>exact bx h .dims rfl
  |par v=>exact bx h .param rfl
  |proc=>exact bx h .external rfl
  |intr=>exact bx h .aB rfl
  |stf=>exact bx h .aU rfl
 |ext=>
  cases u with
  |var o=>cases o<;>first|exact trivial|exact bx h .common rfl
  |arr d o=>exact bx h .dims rfl
  |par v=>exact bx h .param rfl
  |proc=>exact bx h .external rfl
  |intr=>exact bx h .aB rfl
  |stf=>exact bx h .aU rfl
 |int=>
  cases u with
  |var o=>
   cases o with
   |none=>
    refine(?_:wV n imp E .int (match n.isI with
     |true=>some (⟨.intr,ty,res,bF,d9,ap,ca,true⟩:Q)
     |false=>none))
    cases e:n.isI with
    |true=>exact trivial
    |false=>exact .intr (by rw[fG];exact List.mem_append_right _ (.head _)) e
   |some _=>exact bx h .common rfl
  |arr d o=>exact bx h .dims rfl
  |par v=>exact bx h .param rfl
  |proc=>exact bx h .external rfl
  |intr=>exact bx h .aB rfl
  |stf=>exact bx h .aU rfl
 |stf=>
  cases u with
  |var o=>
   cases o with
   |none=>cases bF<;>first|exact trivial|exact bx h .dummy rfl
   |some _=>exact bx h .common rfl
  |arr d o=>exact bx h .dims rfl
  |par v=>exact bx h .param rfl
  |proc=>exact bx h .external rfl
  |intr=>exact bx h .aB rfl
  |stf=>exact bx h .aU rfl
 |_=>exact trivial
theorem H7{n:Nm}{imp:Bool}{q:Q}{E:List Ev}{e:Ev}(h:g6 n imp q E)(hs:q.step n imp e=none):wU n imp (E++[e]):=by have:=Lp h (e:=e);rw[hs]at this;exact this
noncomputable def run(n:Nm)(imp:Bool):Q->List Ev->Option Q
 |q,[]=>some q
 |q,e::r=>match q.step n imp e with
  |none=>none
  |some q=>run n imp q r
set_option tactic.hygienic true in
theorem zA{n:Nm}{imp:Bool}:∀{E' E:List Ev}{q q':Q},g6 n imp q E->(∀e∈E',e.ok=true)->run n imp q E'=some q'->g6 n imp q' (E++E')
 |[],E,q,q',h,_,e=>by cases e;rw[List.append_nil];exact h
 |e::r,E,q,q',h,ok,hr=>by
  unfold run at hr;split at hr
  ·cases hr
  ·rename_i q1 e1;have:=zA (zx h (ok e (.head _)) e1) (λx hx=>ok x (.tail _ hx)) hr;rw[List.append_assoc]at this;exact this
set_option tactic.hygienic true in
theorem zB{n:Nm}{imp:Bool}:∀{E' E:List Ev}{q:Q},g6 n imp q E->(∀e∈E',e.ok=true)->run n imp q E'=none->wU n imp (E++E')
 |[],E,q,h,_,e=>by cases e
 |e::r,E,q,h,ok,hr=>by
  unfold run at hr;split at hr
  ·rename_i e1;have:=zz r (H7 h e1);rw[List.append_assoc]at this;exact this
  ·rename_i q1 e1;have:=zB (zx h (ok e (.head _)) e1) (λx hx=>ok x (.tail _ hx)) hr;rw[List.append_assoc]at this;exact this
noncomputable def zC(ty:Bool)(x:Sy):Option Us:=match x.use with
 | .var=>match x.fV with
  | .no=>match ty with
   |false=>some .sub
   |true=>none
  |_=>none
 | .proc=>match x.fV with
  | .no=>match ty with
   |false=>some .sub
   |true=>none
  |_=>none
 |_=>none
noncomputable def uT(i ca ex:Bool)(x:Sy):Option Us:=match x.use with
 | .array=>some .array
 | .aU=>some .aU
 | .intr=>some .intr
 | .param=>none
 |_=>match x.fV with
  | .no=>match ca with
   |true=>none
   |false=>match ex with
    |true=>some .func
    |false=>match x.bF with
     |true=>some .func
     |false=>match i with
      |true=>some .intr
      |false=>some .func
  |_=>none
noncomputable def uU(ca ty:Bool)(x:Sy):Option Us:=match ca with
 |true=>zC ty x
 |false=>some x.use
noncomputable def uV(isR i ap ca ex:Bool)(x:Sy):Option Us:=match ap with
 |true=>match isR with
  |true=>none
  |false=>uT i ca ex x
 |false=>some x.use
noncomputable def RM(isR:Bool)(x:Sy):Bool:=match isR with
 |true=>x.resOk
 |false=>x.check
noncomputable def T4(isR i ty ap ca ex:Bool)(x:Sy):Option Sy:=match uU ca ty x with
 |none=>none
 |some u1=>match uV isR i ap ca ex {x with use:=u1}with
  |none=>none
  |some u2=>match RM isR {x with use:=u2}with
   |true=>some {x with use:=u2}
   |false=>none
noncomputable def U.us:U->Us
 | .var _=>.var| .arr _ _=>.array| .par _=>.param| .proc=>.proc| .intr=>.intr| .stf=>.aU
noncomputable def U.vl:U->Vl
 | .par v=>v| .stf=>.stf|_=>.no
noncomputable def U.co:U->Option Vl
 | .par v=>some v|_=>none
noncomputable def nL:Option Cm->Cm
 |none=>.no|some c=>c
noncomputable def Q.sy(n:Nm)(imp:Bool)(q:Q):Sy:=⟨SD n imp q.ty,Tn q.u.dm,q.u.us,q.bF,q.u.vl,nL q.u.cm,q.d9⟩
noncomputable def Q.ns(n:Nm)(imp:Bool)(q:Q):NS:=⟨match q.any with|true=>some (q.sy n imp)|false=>none,q.ty.isSome,q.ap,q.ca,q.u.ie,q.u.co⟩
noncomputable def fS(u:U)(ty res bF d9 ap ca:Bool):W->Bool
 | .result=>res| .type=>ty| .dummy=>bF| .dims=>u.dm.isSome| .common=>u.cm.isSome| .param=>u.HZ| .external=>u.ie| .aB=>u.mG
 | .save=>d9| .aU=>u.uR| .applied=>ap| .called=>ca| .met=>false| .asked=>ap&&(!u.dm.isSome&&(!u.uR&&!u.mG))
noncomputable def T8(i:Bool)(m:W->Bool):Us:=match m .dims with
 |true=>.array
 |false=>match m .param with
  |true=>.param
  |false=>match m .aU with
   |true=>.aU
   |false=>match m .aB with
    |true=>.intr
    |false=>match m .called with
     |true=>.sub
     |false=>match m .asked with
      |true=>match i&&(!m .external&&!m .dummy)with
       |true=>.intr
       |false=>.func
      |false=>match m .external with
       |true=>.proc
       |false=>.var
noncomputable def uW:List W:=[.param,.aU,.external,.aB,.asked,.called,.result]
noncomputable def U6(m:W->Bool)(k:Kl)(b:Bool):Bool:=match b with
 |true=>false
 |false=>match k with
  | .cs=>!uW.any m
  |_=>false
noncomputable def nM(i:Bool)(m:W->Bool)(d:Dm)(k:Kl)(b:Bool):Bool:=(wI d b||U6 m k b)||TZ (T8 i m) k
noncomputable def kA(p:Kl->Bool):Bool:=[p .k0,p .k1,p .k2,p .k3,p .k4,p .c1,p .c2,p .c3,p .cs].all id
noncomputable def bA(p:Bool->Bool):Bool:=[p false,p true].all id
noncomputable def cA(p:Option Cm->Bool):Bool:=[p none,p (some .bl),p (some .blk)].all id
noncomputable def dA(p:Dm->Bool):Bool:=[p .d1,p .d2,p .d3].all id
noncomputable def vA(p:Vl->Bool):Bool:=[p .no,p .p0,p .p1,p .p2,p .p3,p .stf].all id
noncomputable def uA(p:U->Bool):Bool:=[cA λo=>p (.var o),dA λd=>cA λo=>p (.arr d o),vA λv=>p (.par v),p .proc,p .intr,p .stf].all id
noncomputable def klB(p:Kl->Bool->Bool):Bool:=kA λk=>bA λi=>p k i
noncomputable def OV(u:U)(k:Kl)(bF d9:Bool):Sy:=⟨k,Tn u.dm,u.us,bF,u.vl,nL u.cm,d9⟩
noncomputable def Ol(u:U)(ty res bF d9 ap ca:Bool):Bool:=(res&&bF)||match S7 (fS u ty res bF d9 ap ca)with
 |true=>klB λk i=>!okU u k i||(T4 res i ty ap ca u.ie (OV u k bF d9)).isNone
 |false=>klB λk i=>!okU u k i||match T4 res i ty ap ca u.ie (OV u k bF d9)with
  |none=>nM i (fS u ty res bF d9 ap ca) (Tn u.dm) k bF
  |some x=>!nM i (fS u ty res bF d9 ap ca) (Tn u.dm) k bF&&decide (x.use=T8 i (fS u ty res bF d9 ap ca))
noncomputable def chk:Bool:=uA λu=>bA λty=>bA λres=>bA λbF=>bA λd9=>bA λap=>bA λca=>Ol u ty res bF d9 ap ca
theorem Om:chk=true:=by kernel_rfl
theorem jU:∀{l:List Bool},l.all id=true->∀n,l.getD n true=true
 |[],_,_=>rfl
 |_::_,h,0=>aj h
 |a::l,h,n+1=>jU (l:=l) (by
  cases a with
  |true=>exact h
  |false=>exact nomatch h) n
theorem PU{p:Kl->Bool}(h:kA p=true)(k:Kl):p k=true:=by have:=jU h k.ctorIdx;cases k<;>exact this
theorem sq{p:Bool->Bool}(h:bA p=true)(b:Bool):p b=true:=by have:=jU h b.toNat;cases b<;>exact this
theorem MN{p:Option Cm->Bool}(h:cA p=true){o:Option Cm}(ok:Qz o=true):p o=true:=by
 have:=jU h (match o with|none=>0|some c=>c.ctorIdx)
 cases o with
 |none=>exact this
 |some c=>cases c<;>first|exact this|exact nomatch ok
theorem PV{p:Dm->Bool}(h:dA p=true){d:Dm}(ok:Rj d=true):p d=true:=by have:=jU h (d.ctorIdx - 1);cases d<;>first|exact this|exact nomatch ok
theorem PW{p:Vl->Bool}(h:vA p=true)(v:Vl):p v=true:=by have:=jU h v.ctorIdx;cases v<;>exact this
theorem PX{p:U->Bool}(h:uA p=true){u:U}{k:Kl}{i:Bool}(ok:okU u k i=true):p u=true:=by
 have:=jU h u.ctorIdx;cases u with
 |var o=>exact MN (p:=λo=>p (.var o)) this ok
 |arr d o=>exact MN (p:=λo=>p (.arr d o)) (PV (p:=λd=>cA λo=>p (.arr d o)) this (aj ok)) (ak ok)
 |par v=>exact PW (p:=λv=>p (.par v)) this v
 |_=>exact this
theorem B9{p:Kl->Bool->Bool}(h:klB p=true)(k:Kl)(i:Bool):p k i=true:=sq (PU h k) i
theorem Oo{u:U}{k:Kl}{i ty res bF d9 ap ca:Bool}(ok:okU u k i=true):Ol u ty res bF d9 ap ca=true:=
 sq (sq (sq (sq (sq (sq (PX Om ok) ty) res) bF) d9) ap) ca
theorem Ca{u:U}{k:Kl}{i ty res bF d9 ap ca:Bool}(ok:okU u k i=true)(hr:(res&&bF)=false):(match S7 (fS u ty res bF d9 ap ca)with
 |true=>(T4 res i ty ap ca u.ie (OV u k bF d9)).isNone
 |false=>match T4 res i ty ap ca u.ie (OV u k bF d9)with
  |none=>nM i (fS u ty res bF d9 ap ca) (Tn u.dm) k bF
  |some x=>!nM i (fS u ty res bF d9 ap ca) (Tn u.dm) k bF&&decide (x.use=T8 i (fS u ty res bF d9 ap ca)))=true:=by
 have h:=Oo (ty:=ty) (res:=res) (bF:=bF) (d9:=d9) (ap:=ap) (ca:=ca) ok;unfold Ol at h;rw[hr,Bool.false_or]at h;cases c:S7 (fS u ty res bF d9 ap ca)with
 |true=>rw[c]at h;have:=B9 h k i;rw[ok]at this;exact this
 |false=>rw[c]at h;have:=B9 h k i;rw[ok]at this;exact this
theorem H8{u:U}{k:Kl}{i ty res bF d9 ap ca:Bool}(ok:okU u k i=true)(hr:(res&&bF)=false)(e:T4 res i ty ap ca u.ie (OV u k bF d9)=none):
  (S7 (fS u ty res bF d9 ap ca)||nM i (fS u ty res bF d9 ap ca) (Tn u.dm) k bF)=true:=by
 have h:=Ca ok hr (i:=i) (ty:=ty) (d9:=d9) (ap:=ap) (ca:=ca);rw[e]at h;cases c:S7 (fS u ty res bF d9 ap ca)with
 |true=>rfl
 |false=>rw[c]at h;exact h
theorem H9{u:U}{k:Kl}{i ty res bF d9 ap ca:Bool}{x:Sy}(ok:okU u k i=true)(hr:(res&&bF)=false)(e:T4 res i ty ap ca u.ie (OV u k bF d9)=some x):
  S7 (fS u ty res bF d9 ap ca)=false/\nM i (fS u ty res bF d9 ap ca) (Tn u.dm) k bF=false/\x.use=T8 i (fS u ty res bF d9 ap ca):=by
 have h:=Ca ok hr (i:=i) (ty:=ty) (d9:=d9) (ap:=ap) (ca:=ca);rw[e]at h;cases c:S7 (fS u ty res bF d9 ap ca)with
 |true=>rw[c]at h;exact nomatch h
 |false=>rw[c]at h;exact⟨rfl,(Bool.not_eq_true' _).mp (aj h),of_decide_eq_true (ak h)⟩
theorem Ia{isR i ty ap ca ex:Bool}{x y:Sy}(e:T4 isR i ty ap ca ex x=some y):y={x with use:=y.use}:=by
 unfold T4 at e;split at e
 ·cases e
 ·split at e
  ·cases e
  ·split at e
   ·cases e;rfl
   ·cases e
structure sr(ET EL:List Ev):Prop where
 perm:(ws ET).Perm (ws EL)
 ty:Ti ET=Ti EL
 dm:Tt ET=Tt EL
 cm:TP ET=TP EL
 pt:ia (ws ET)->(kU (ws ET)↔kU (ws EL))
theorem pN{A B:List W}(h:A.Perm B):ia A↔ia B:=List.Perm.pairwise_iff (R:=λa b=>Th a b=false) (λ{x y} q=>(kT y x).trans q) h
noncomputable def iT(a:Bool):List W:=match a with
 |true=>[.asked]
 |false=>[]
theorem T9(L:List S)(p:S->Bool):(L.filter p).isEmpty=!L.any p:=by
 induction L with
 |nil=>rfl
 |cons x L ih=>
  rw[List.filter_cons,List.any_cons];cases p x with
  |true=>rfl
  |false=>exact ih
theorem Uz(cs:List W)(L:List W):(eB L).any (λs=>(cs.map W.s).any (As s))=cs.any λw=>decide (w∈L):=by
 rw[Bool.eq_iff_iff,List.any_eq_true,List.any_eq_true];constructor
 ·rintro ⟨s,hs,h⟩
  obtain⟨v,hv,rfl⟩:=List.mem_map.mp hs;obtain⟨c,hc,h⟩:=List.any_eq_true.mp h;obtain⟨w,hw,rfl⟩:=List.mem_map.mp hc;have:=W.inj (cY.mp h);subst this;exact⟨v,hw,decide_eq_true hv⟩
 ·rintro ⟨w,hw,h⟩
  have h:=of_decide_eq_true h;exact⟨w.s,List.mem_map.mpr ⟨w,h,rfl⟩,List.any_eq_true.mpr ⟨w.s,List.mem_map.mpr ⟨w,hw,rfl⟩,wM _⟩⟩
theorem AZ(L:List W):IS (eB L)=(decide (W.applied∈L)&&!(decide (W.dims∈L)||(decide (W.aU∈L)||decide (W.aB∈L)))):=by unfold IS;rw[T9,show g5=W.s .applied from rfl,fQ,show Lb=[W.dims,W.aU,W.aB].map W.s from rfl,Uz];simp only[List.any_cons,List.any_nil,Bool.or_false]
theorem qi(L:List W):SA (eB L)=eB (L++iT (IS (eB L))):=by
 unfold SA;cases IS (eB L)with
 |true=>show eB L++[gO]=eB (L++[.asked]);unfold eB;rw[List.map_append];rfl
 |false=>show eB L=eB (L++[]);rw[List.append_nil]
theorem zD{k:Kl}(h:gJ k=none):TZ .param k=true:=by cases k<;>first|rfl|cases h
theorem Lq{n:Nm}{imp:Bool}{ET EL:List Ev}{X:LN}(hX:X.ty=Ti EL)(hs:sr ET EL)(h:wU n imp ET):(SG n imp X (SA (eB (ws EL)))||bH n (SA (eB (ws EL))))=true:=by
 rw[qi];have sub:∀{w:W},w∈ws ET->w∈ws EL++iT (IS (eB (ws EL))):=λh=>List.mem_append_left _ (hs.perm.mem_iff.mp h);have hpair:¬ia (ws ET)->SQ [] (eB (ws EL++iT (IS (eB (ws EL)))))=true:=λh=>by
  cases e:SQ [] (eB (ws EL++iT (IS (eB (ws EL)))))with
  |true=>rfl
  |false=>exact absurd ((pN hs.perm).mpr (List.pairwise_append.mp ((r9 _).mp e)).1) h
 have fromPair:SQ [] (eB (ws EL++iT (IS (eB (ws EL)))))=true->(SG n imp X (eB (ws EL++iT (IS (eB (ws EL)))))||bH n (eB (ws EL++iT (IS (eB (ws EL))))))=true:=λh=>by unfold SG kO;rw[h];rfl
 cases h with
 |pair h=>exact fromPair (hpair h)
 |pt h=>
  by_cases c:ia (ws ET)
  ·have h2:¬kU (ws EL):=λq=>h ((hs.pt c).mpr q);have:eW (eB (ws EL++iT (IS (eB (ws EL)))))=true:=by
    cases e:eW (eB (ws EL++iT (IS (eB (ws EL)))))with
    |true=>rfl
    |false=>exact absurd (List.pairwise_append.mp ((AX _).mp e)).1 h2
   unfold SG kO;rw[this];cases SQ [] (eB (ws EL++iT (IS (eB (ws EL)))))<;>rfl
  ·exact fromPair (hpair c)
 |intr h k=>
  have:bH n (eB (ws EL++iT (IS (eB (ws EL)))))=true:=by unfold bH;rw[show bQ=W.s .aB from rfl,fQ,decide_eq_true (sub h),k];rfl
  rw[this,Bool.or_true]
 |par h k=>
  by_cases c:W.dims∈ws EL++iT (IS (eB (ws EL)))
  ·refine fromPair ?_;cases e:SQ [] (eB (ws EL++iT (IS (eB (ws EL)))))with
   |true=>rfl
   |false=>
    have:=mD ((r9 _).mp e) (a:=.dims) (b:=.param) (by decide) c (sub h)
    rw[fR]at this;cases this
  ·have hu:oU n (eB (ws EL++iT (IS (eB (ws EL)))))=.param:=by unfold oU;rw[show jY=W.s .dims from rfl,fQ,decide_eq_false c,show bG=W.s .param from rfl,fQ,decide_eq_true (sub h)]
   have:TZ (oU n (eB (ws EL++iT (IS (eB (ws EL)))))) (SD n imp X.ty)=true:=by rw[hu,hX,<- hs.ty];exact zD k
   unfold SG;rw[this];simp
noncomputable def Q.m(q:Q):W->Bool:=fS q.u q.ty.isSome q.res q.bF q.d9 q.ap q.ca
theorem Oq(q:Q){w:W}(h:w≠.asked):q.m w=q.mask w:=by cases w<;>first|rfl|exact absurd rfl h
section
variable{n:Nm}{imp:Bool}{ET EL:List Ev}{q:Q}{X:LN}
theorem Ib(h:g6 n imp q ET):okU q.u (SD n imp q.ty) n.isI=true:=h.wf
theorem oX(hs:sr ET EL)(h:g6 n imp q ET){w:W}(hw:w≠.met):decide (w∈ws EL)=q.mask w:=by
 have:=h.mask w hw;rw[hs.perm.mem_iff]at this;cases e:q.mask w with
 |true=>exact decide_eq_true (this.mpr e)
 |false=>exact decide_eq_false λc=>by rw[this.mp c]at e;cases e
theorem zE(hs:sr ET EL)(h:g6 n imp q ET):IS (eB (ws EL))=q.m .asked:=by
 rw[AZ,oX hs h (by decide),oX hs h (by decide),oX hs h (by decide),oX hs h (by decide)]
 show(q.ap&&!(q.u.dm.isSome||(q.u.uR||q.u.mG)))=(q.ap&&(!q.u.dm.isSome&&(!q.u.uR&&!q.u.mG)))
 cases q.ap<;>cases q.u.dm.isSome<;>cases q.u.uR<;>cases q.u.mG<;>rfl
theorem dz(hs:sr ET EL)(h:g6 n imp q ET){w:W}(hw:w≠.met):decide (w∈ws EL++iT (q.m .asked))=q.m w:=by
 by_cases c:w=.asked
 ·subst c;have h1:decide (W.asked∈ws EL)=false:=oX hs h (w:=.asked) (by decide)
  have h1:=of_decide_eq_false h1;cases e:q.m .asked with
  |true=>exact decide_eq_true (List.mem_append_right _ (.head _))
  |false=>
   refine decide_eq_false λk=>?_;rcases List.mem_append.mp k with k|k
   ·exact h1 k
   ·cases k
 ·rw[Oq q c,<- oX hs h hw];have:w∈ws EL++iT (q.m .asked)↔w∈ws EL:=by
   rw[List.mem_append];constructor
   ·rintro (k|k)
    ·exact k
    ·cases e:q.m .asked with
     |true=>rw[e]at k;exact absurd (List.mem_singleton.mp k) c
     |false=>rw[e]at k;cases k
   ·exact .inl
  exact decide_eq_decide.mpr this
theorem zF(hs:sr ET EL)(h:g6 n imp q ET):SQ [] (eB (ws EL++iT (q.m .asked)))=S7 q.m:=by
 cases e:S7 q.m with
 |false=>
  refine(r9 _).mpr (Ea (m:=q.m) (λw hw hne=>?_) ?_ e)
  ·rw[<- dz hs h hne];exact decide_eq_true hw
  ·have:mF (ws EL):=by refine(List.Perm.pairwise_iff (R:=λa b=>a=b->Th a b=false) (λ{x y} k e=>?_) hs.perm).mp h.nd;exact(kT y x).trans (k e.symm)
   cases c:q.m .asked with
   |false=>show mF (ws EL++[]);rw[List.append_nil];exact this
   |true=>exact pM this λk=>by rw[se]at k;cases k
 |true=>
  cases c:SQ [] (eB (ws EL++iT (q.m .asked)))with
  |true=>rfl
  |false=>
   obtain⟨a,b,hn,ha,hb,hc⟩:=zu e;have nm:∀w,q.m w=true->w≠.met:=λw k e=>by subst e;cases k
   have:=mD ((r9 _).mp c) hn (of_decide_eq_true ((dz hs h (nm a ha)).trans ha)) (of_decide_eq_true ((dz hs h (nm b hb)).trans hb));rw[hc]at this;cases this
theorem Ot(hs:sr ET EL)(h:g6 n imp q ET)(e:S7 q.m=false):eW (eB (ws EL++iT (q.m .asked)))=false:=by
 have h1:=(r9 _).mp ((zF hs h).trans e);have h2:ia (ws EL):=(List.pairwise_append.mp h1).1;have h3:kU (ws EL):=(hs.pt ((pN hs.perm).mpr h2)).mp h.pt;refine(AX _).mpr ?_;cases c:q.m .asked with
 |false=>show kU (ws EL++[]);rw[List.append_nil];exact h3
 |true=>exact uS h3 λk=>by cases k
theorem Eg(L:List W)(k:Kl)(b:Bool):Un (eB L) k b=U6 (λw=>decide (w∈L)) k b:=by
 unfold Un U6;cases b with
 |true=>rfl
 |false=>
  cases k<;>first|rfl|skip
  show((eB L).filter λs=>DY.any (As s)).isEmpty=!uW.any λw=>decide (w∈L);rw[T9,show DY=uW.map W.s from rfl,Uz]
theorem A0{m m':W->Bool}(h:∀w,w≠.met->m w=m' w)(k:Kl)(b:Bool):U6 m k b=U6 m' k b:=by unfold U6;rw[show uW.any m=uW.any m' from ?_];unfold uW;simp only[List.any_cons,List.any_nil,h _ (show W.param≠.met by decide),h _ (show W.aU≠.met by decide),h _ (show W.external≠.met by decide),h _ (show W.aB≠.met by decide),h _ (show W.asked≠.met by decide),h _ (show W.called≠.met by decide),h _ (show W.result≠.met by decide)]
theorem Cb(hs:sr ET EL)(h:g6 n imp q ET):oU n (eB (ws EL++iT (q.m .asked)))=T8 n.isI q.m:=by
 unfold oU T8;rw[show jY=W.s .dims from rfl,fQ,dz hs h (by decide),show bG=W.s .param from rfl,fQ,dz hs h (by decide),show jS=W.s .aU from rfl,fQ,dz hs h (by decide),
  show bQ=W.s .aB from rfl,fQ,dz hs h (by decide),show lK=W.s .called from rfl,fQ,dz hs h (by decide),show gO=W.s .asked from rfl,fQ,dz hs h (by decide),
  show cC=W.s .external from rfl,fQ,dz hs h (by decide),show d7=W.s .dummy from rfl,fQ,dz hs h (by decide)]
 all_goals rfl
theorem Vn(hX:X.ty=Ti EL)(hd:X.dm=Tt EL)(hs:sr ET EL)(h:g6 n imp q ET):
  (SG n imp X (SA (eB (ws EL)))||bH n (SA (eB (ws EL))))=(S7 q.m||nM n.isI q.m (Tn q.u.dm) (SD n imp q.ty) q.bF):=by
 rw[qi,zE hs h];have hi:bH n (eB (ws EL++iT (q.m .asked)))=false:=by
  unfold bH;rw[show bQ=W.s .aB from rfl,fQ,dz hs h (by decide)]
  show(q.u.mG&&!n.isI)=false;have:=h.wf;cases e:q.u with
  |intr=>rw[e]at this;rw[show n.isI=true from this];rfl
  |_=>rfl
 rw[hi,Bool.or_false];unfold SG kO;rw[zF hs h,Cb hs h,hX,hd,<- hs.ty,<- hs.dm,h.ty,h.dm,show d7=W.s .dummy from rfl,fQ,dz hs h (by decide),Eg]
 rw[A0 (m:=λw=>decide (w∈ws EL++iT (q.m .asked))) (m':=q.m) (λw hw=>dz hs h hw)];cases e:S7 q.m with
 |true=>rfl
 |false=>rw[Ot hs h e];rfl
theorem Ic(hX:X.ty=Ti EL)(hd:X.dm=Tt EL)(hs:sr ET EL)(h:g6 n imp q ET)(e:T4 q.res n.isI q.ty.isSome q.ap q.ca q.u.ie (q.sy n imp)=none):
  (SG n imp X (SA (eB (ws EL)))||bH n (SA (eB (ws EL))))=true:=
 (Vn hX hd hs h).trans (H8 (Ib h) h.xj e)
theorem A4{i:Bool}{u:U}{ty res bF d9 ap ca:Bool}(h:T8 i (fS u ty res bF d9 ap ca)=.param):u.HZ=true:=by
 have tail:∀s r c a x z:Bool,(match s with
  |true=>Us.aU
  |false=>match r with
   |true=>.intr
   |false=>match c with
    |true=>.sub
    |false=>match a with
     |true=>match x with
      |true=>.intr
      |false=>.func
     |false=>match z with
      |true=>.proc
      |false=>.var)≠.param:=λs r c a x z=>by
  cases s with
  |true=>exactλh=>nomatch h
  |false=>cases r with
   |true=>exactλh=>nomatch h
   |false=>cases c with
    |true=>exactλh=>nomatch h
    |false=>cases a with
     |true=>cases x<;>exactλh=>nomatch h
     |false=>cases z<;>exactλh=>nomatch h
 have t:∀m:W->Bool,_:=λm=>tail (m .aU) (m .aB) (m .called) (m .asked) (i&&(!m .external&&!m .dummy)) (m .external);have t:=t (fS u ty res bF d9 ap ca);cases u with
 |par v=>rfl
 |arr d o=>exact nomatch h
 |_=>exact absurd h t
theorem A5{k:Kl}{v:Vl}(h:gJ k=some v):TY .param k=v.v:=by cases k<;>first|exact congrArg Vl.v (Option.some.inj h)|exact nomatch h
theorem Ie(hX:X.ty=Ti EL)(hd:X.dm=Tt EL)(hc:X.cm=TP EL)(hs:sr ET EL)(h:g6 n imp q ET){x:Sy}(e:T4 q.res n.isI q.ty.isSome q.ap q.ca q.u.ie (q.sy n imp)=some x):
  (SG n imp X (SA (eB (ws EL)))||bH n (SA (eB (ws EL))))=false/\To n imp X (SA (eB (ws EL)))=rX x:=by
 obtain⟨h1,h2,h3⟩:=H9 (Ib h) h.xj e;refine⟨(Vn hX hd hs h).trans (by show(S7 q.m||nM n.isI q.m (Tn q.u.dm) (SD n imp q.ty) q.bF)=false;rw[show S7 q.m=false from h1,show nM n.isI q.m (Tn q.u.dm) (SD n imp q.ty) q.bF=false from h2];rfl),?_⟩
 rw[qi,zE hs h];unfold To;rw[Cb hs h,hX,hd,hc,<- hs.ty,<- hs.dm,<- hs.cm,h.ty,h.dm,h.cm,show d7=W.s .dummy from rfl,fQ,dz hs h (by decide),show pq=W.s .save from rfl,fQ,dz hs h (by decide)]
 have h3:x.use=T8 n.isI q.m:=h3;rw[Ia e,h3];have hv:TY (T8 n.isI q.m) (SD n imp q.ty)=rU {q.sy n imp with use:=T8 n.isI q.m}:=by
  unfold rU;cases c:T8 n.isI q.m with
  |param=>
   have hu:=A4 (c:T8 n.isI (fS q.u q.ty.isSome q.res q.bF q.d9 q.ap q.ca)=.param);have hp:=h.wf;show TY .param (SD n imp q.ty)=q.u.vl.v;cases k:q.u with
   |par v=>rw[k]at hp;exact A5 (of_decide_eq_true hp)
   |_=>rw[k]at hu;exact nomatch hu
  |_=>rfl
 have hcm:Vm q.u.cm=(nL q.u.cm).v:=by cases q.u.cm<;>rfl
 rw[hcm];show V.lst [(SD n imp q.ty).kind,(SD n imp q.ty).len,(Tn q.u.dm).v,.str (T8 n.isI q.m).s,.bool q.bF,TY (T8 n.isI q.m) (SD n imp q.ty),(nL q.u.cm).v,.bool q.d9]=_;rw[hv];rfl
end
structure cP(imp:Bool)(t:T)(σ:Nm->Q):Prop where
 get:∀m,t.get m=(σ m).ns m imp
 RB:∀m,(σ m).any=false->σ m=Q0
 Cs:∀m c,(σ m).u.cm=some c->c≠.no
noncomputable def SR(σ:Nm->Q)(n:Nm)(q:Q):Nm->Q:=λm=>match decide (m=n)with
 |true=>q
 |false=>σ m
theorem bD(σ:Nm->Q)(n:Nm)(q:Q):SR σ n q n=q:=by unfold SR;rw[decide_eq_true rfl]
theorem dN(σ:Nm->Q){n m:Nm}(q:Q)(h:m≠n):SR σ n q m=σ m:=by unfold SR;rw[decide_eq_false h]
noncomputable def fH(imp:Bool)(o:Option T):Option (Nm->Q)->Prop
 |none=>o=none
 |some σ=>∃t,o=some t/\cP imp t σ
noncomputable def SH(imp:Bool)(σ:Nm->Q)(n:Nm)(e:Ev):Option (Nm->Q):=match(σ n).step n imp e with
 |none=>none
 |some q=>some (SR σ n q)
noncomputable def S0(imp:Bool):(Nm->Q)->List (Nm×Ev)->Option (Nm->Q)
 |σ,[]=>some σ
 |σ,p::r=>match SH imp σ p.1 p.2 with
  |none=>none
  |some σ=>S0 imp σ r
section
variable{imp:Bool}{t t':T}{σ:Nm->Q}{n:Nm}{q:Q}
theorem fJ(h:cP imp t σ)(n:Nm):t.sym n imp=(σ n).sy n imp:=by
 show(t.get n).sym n imp=_;rw[h.get n];unfold NS.sym Q.ns;cases e:(σ n).any with
 |true=>rfl
 |false=>rw[h.RB n e];cases n<;>cases imp<;>rfl
theorem eE(h:cP imp t σ)(h1:t'.get n=q.ns n imp)(h2:∀m,m≠n->t'.get m=t.get m)(ha:q.any=true)(hc:∀c,q.u.cm=some c->c≠.no):cP imp t' (SR σ n q):=by
 refine⟨λm=>?_,λm e=>?_,λm c e=>?_⟩
 ·by_cases k:m=n
  ·subst k;rw[bD];exact h1
  ·rw[dN _ _ k,h2 m k];exact h.get m
 ·by_cases k:m=n
  ·subst k;rw[bD,ha]at e;cases e
  ·rw[dN _ _ k]at e ⊢;exact h.RB m e
 ·by_cases k:m=n
  ·subst k;rw[bD]at e;exact hc c e
  ·rw[dN _ _ k]at e;exact h.Cs m c e
theorem gS(n:Nm)(x:Sy):(t.aY n x).get n={t.get n with sy:=some x}:=BU n t x
theorem Lr(n:Nm)(x:Sy):((t.uC n).aY n x).get n={t.get n with ty:=true,sy:=some x}:=by cases n<;>rfl
theorem Lu(n:Nm)(x:Sy)(v:Vl):((t.aY n x).yE n v).get n={t.get n with sy:=some x,co:=some v}:=by cases n<;>rfl
theorem Lv(n:Nm)(x:Sy):((t.aY n x).yD n).get n={t.get n with sy:=some x,ex:=true}:=by cases n<;>rfl
theorem Lx(n:Nm)(x:Sy):((t.aY n x).pg n).get n={t.get n with sy:=some x,ap:=true}:=by cases n<;>rfl
theorem Ly(n:Nm)(x:Sy):((t.aY n x).pn n).get n={t.get n with sy:=some x,ca:=true}:=by cases n<;>rfl
theorem gT(x:Sy){m:Nm}(h:m≠n):(t.aY n x).get m=t.get m:=PD (Ne.symm h) t x
theorem Lz(x:Sy){m:Nm}(h:m≠n):((t.uC n).aY n x).get m=t.get m:=by cases n<;>cases m<;>first|rfl|exact absurd rfl h
theorem LA(x:Sy)(v:Vl){m:Nm}(h:m≠n):((t.aY n x).yE n v).get m=t.get m:=by cases n<;>cases m<;>first|rfl|exact absurd rfl h
theorem LB(x:Sy){m:Nm}(h:m≠n):((t.aY n x).yD n).get m=t.get m:=by cases n<;>cases m<;>first|rfl|exact absurd rfl h
theorem LC(x:Sy){m:Nm}(h:m≠n):((t.aY n x).pg n).get m=t.get m:=by cases n<;>cases m<;>first|rfl|exact absurd rfl h
theorem LD(x:Sy){m:Nm}(h:m≠n):((t.aY n x).pn n).get m=t.get m:=by cases n<;>cases m<;>first|rfl|exact absurd rfl h
theorem gU(h:cP imp t σ)(n:Nm):cP imp (t.need n imp) (SR σ n {σ n with any:=true}):=by refine eE h ?_ (λm k=>gT _ k) rfl (h.Cs n);show(t.aY n (t.sym n imp)).get n=_;rw[gS,fJ h,h.get n];rfl
theorem Cc(h:cP imp t σ)(n:Nm):cP imp ((t.need n imp).pg n) (SR σ n {σ n with ap:=true,any:=true}):=by refine eE h ?_ (λm k=>LC _ k) rfl (h.Cs n);show((t.aY n (t.sym n imp)).pg n).get n=_;rw[Lx,fJ h,h.get n];rfl
theorem Cd(h:cP imp t σ)(n:Nm):cP imp ((t.need n imp).pn n) (SR σ n {σ n with ca:=true,any:=true}):=by refine eE h ?_ (λm k=>LD _ k) rfl (h.Cs n);show((t.aY n (t.sym n imp)).pn n).get n=_;rw[Ly,fJ h,h.get n];rfl
theorem LF(h:cP imp t σ)(n:Nm):cP imp (t.aY n {t.sym n imp with bF:=true}) (SR σ n {σ n with bF:=true,any:=true}):=by refine eE h ?_ (λm k=>gT _ k) rfl (h.Cs n);rw[gS,fJ h,h.get n];rfl
theorem LG(h:cP imp t σ)(n:Nm):cP imp (t.aY n {t.sym n imp with d9:=true}) (SR σ n {σ n with d9:=true,any:=true}):=by refine eE h ?_ (λm k=>gT _ k) rfl (h.Cs n);rw[gS,fJ h,h.get n];rfl
theorem wW(h:cP imp t σ)(n:Nm)(k:Kl):fH imp (t.gb imp n k) (SH imp σ n (.ty k)):=by
 have hg:=h.get n;have hs:=fJ h n;have hc:=h.Cs n;unfold T.gb SH;have e1:(t.get n).ty=(σ n).ty.isSome:=by rw[hg];rfl
 have e2:(t.get n).co=(σ n).u.co:=by rw[hg];rfl
 rw[e1,e2];have put:cP imp ((t.uC n).aY n {t.sym n imp with kl:=k}) (SR σ n {σ n with ty:=some k,any:=true}):=by refine eE h ?_ (λm k=>Lz _ k) rfl hc;rw[Lr,hs,hg];rfl
 show fH imp _ (match(match(σ n).ty with
  |some _=>none
  |none=>match(σ n).u with
   | .par _=>none
   |_=>some {σ n with ty:=some k,any:=true}:Option Q)with
  |none=>none
  |some q=>some (SR σ n q))
 cases (σ n).ty with
 |some k'=>rfl
 |none=>cases (σ n).u<;>first|rfl|exact⟨_,rfl,put⟩
theorem su(h:cP imp t σ)(n:Nm)(d:Dm)(hd:d≠.d0):fH imp (t.c7 imp n d) (SH imp σ n (.dim d)):=by
 have hg:=h.get n;have hs:=fJ h n;have hc:=h.Cs n;have e0:t.c7 imp n d=match(t.sym n imp).use with
  | .var=>some (t.aY n {t.sym n imp with dims:=d,use:=.array})
  |_=>none:=by cases d<;>first|exact absurd rfl hd|rfl
 rw[e0];have hu:(t.sym n imp).use=(σ n).u.us:=by rw[hs];rfl
 rw[hu];unfold SH;show fH imp _ (match(match(σ n).u with
  | .var c=>some {σ n with u:=.arr d c,any:=true}
  |_=>none:Option Q)with
  |none=>none
  |some q=>some (SR σ n q))
 cases e:(σ n).u with
 |var c=>
  refine⟨_,rfl,eE h ?_ (λm k=>gT _ k) rfl λc' q=>hc c' (by rw[e];exact q)⟩
  rw[gS,hs,hg];unfold Q.ns Q.sy;rw[e];rfl
 |_=>rfl
theorem zG(h:cP imp t σ)(n:Nm)(c:Cm)(hn:c≠.no):fH imp (t.addCom imp n c .d0) (SH imp σ n (.fV c)):=by
 have hm:=gU h n;have hg:=hm.get n;have hs:=fJ hm n;have hc:=hm.Cs n;rw[bD]at hg hs hc;have e0:t.addCom imp n c .d0=match((t.need n imp).sym n imp).fV with
  | .no=>match((t.need n imp).sym n imp).use with
   | .var=>some ((t.need n imp).aY n {(t.need n imp).sym n imp with fV:=c})
   | .array=>some ((t.need n imp).aY n {(t.need n imp).sym n imp with fV:=c})
   |_=>none
  |_=>none:=rfl
 rw[e0];have hu:((t.need n imp).sym n imp).use=(σ n).u.us:=by rw[hs];rfl
 have hcm:((t.need n imp).sym n imp).fV=nL (σ n).u.cm:=by rw[hs];rfl
 rw[hu,hcm];have upd2:∀q:Q,SR (SR σ n {σ n with any:=true}) n q=SR σ n q:=λq=>funext λm=>by
  by_cases k:m=n
  ·subst k;rw[bD,bD]
  ·rw[dN _ _ k,dN _ _ k,dN _ _ k]
 unfold SH;show fH imp _ (match(match(σ n).u with
  | .var none=>some {σ n with u:=.var (some c),any:=true}
  | .arr d none=>some {σ n with u:=.arr d (some c),any:=true}
  |_=>none:Option Q)with
  |none=>none
  |some q=>some (SR σ n q))
 cases e:(σ n).u with
 |var o=>
  cases o with
  |none=>
   refine⟨_,rfl,?_⟩;rw[<- upd2];refine eE hm ?_ (λm k=>gT _ k) rfl λc' q=>by cases q;exact hn
   rw[gS,hs,hg];unfold Q.ns Q.sy;dsimp only;rw[e];rfl
  |some c'=>
   have:c'≠.no:=hc c' (by show(σ n).u.cm=_;rw[e];rfl)
   cases c'<;>first|exact absurd rfl this|rfl
 |arr d o=>
  cases o with
  |none=>
   refine⟨_,rfl,?_⟩;rw[<- upd2];refine eE hm ?_ (λm k=>gT _ k) rfl λc' q=>by cases q;exact hn
   rw[gS,hs,hg];unfold Q.ns Q.sy;dsimp only;rw[e];rfl
  |some c'=>
   have:c'≠.no:=hc c' (by show(σ n).u.cm=_;rw[e];rfl)
   cases c'<;>first|exact absurd rfl this|rfl
 |_=>rfl
theorem zH(h:cP imp t σ)(n:Nm):fH imp (t.addParam imp n) (SH imp σ n .par):=by
 have hg:=h.get n;have hs:=fJ h n;have hc:=h.Cs n;unfold T.addParam SH;have e2:(t.get n).co=(σ n).u.co:=by rw[hg];rfl
 have hu:(t.sym n imp).use=(σ n).u.us:=by rw[hs];rfl
 have hcm:(t.sym n imp).fV=nL (σ n).u.cm:=by rw[hs];rfl
 have hk:(t.sym n imp).kl=SD n imp (σ n).ty:=by rw[hs];rfl
 rw[e2,hu,hcm,hk];show fH imp _ (match(match(σ n).u with
  | .var none=>match gJ (SD n imp (σ n).ty)with
   |some v=>some {σ n with u:=.par v,any:=true}
   |none=>none
  |_=>none:Option Q)with
  |none=>none
  |some q=>some (SR σ n q))
 cases e:(σ n).u with
 |var o=>
  cases o with
  |none=>
   cases ep:gJ (SD n imp (σ n).ty)with
   |none=>rfl
   |some v=>
    refine⟨_,rfl,eE h ?_ (λm k=>LA _ _ k) rfl λc' q=>by cases q⟩
    rw[Lu,hs,hg];unfold Q.ns Q.sy;dsimp only;rw[e];rfl
  |some c'=>
   have:c'≠.no:=hc c' (by rw[e];rfl)
   cases c'<;>first|exact absurd rfl this|rfl
 |_=>rfl
theorem Ig(h:cP imp t σ)(n:Nm):fH imp (t.qY imp n) (SH imp σ n .ext):=by
 have hg:=h.get n;have hs:=fJ h n;have hc:=h.Cs n;unfold T.qY SH;have hu:(t.sym n imp).use=(σ n).u.us:=by rw[hs];rfl
 have hcm:(t.sym n imp).fV=nL (σ n).u.cm:=by rw[hs];rfl
 rw[hu,hcm];show fH imp _ (match(match(σ n).u with
  | .var none=>some {σ n with u:=.proc,any:=true}
  |_=>none:Option Q)with
  |none=>none
  |some q=>some (SR σ n q))
 cases e:(σ n).u with
 |var o=>
  cases o with
  |none=>
   refine⟨_,rfl,eE h ?_ (λm k=>LB _ k) rfl λc' q=>by cases q⟩
   rw[Lv,hs,hg];unfold Q.ns Q.sy;dsimp only;rw[e];rfl
  |some c'=>
   have:c'≠.no:=hc c' (by rw[e];rfl)
   cases c'<;>first|exact absurd rfl this|rfl
 |_=>rfl
theorem Ih(h:cP imp t σ)(n:Nm):fH imp (t.m8 imp n) (SH imp σ n .int):=by
 have hg:=h.get n;have hs:=fJ h n;have hc:=h.Cs n;unfold T.m8 SH;have hu:(t.sym n imp).use=(σ n).u.us:=by rw[hs];rfl
 have hcm:(t.sym n imp).fV=nL (σ n).u.cm:=by rw[hs];rfl
 rw[hu,hcm];show fH imp _ (match(match(σ n).u with
  | .var none=>match n.isI with
   |true=>some {σ n with u:=.intr,any:=true}
   |false=>none
  |_=>none:Option Q)with
  |none=>none
  |some q=>some (SR σ n q))
 cases e:(σ n).u with
 |var o=>
  cases o with
  |none=>
   cases ei:n.isI with
   |false=>rfl
   |true=>
    refine⟨_,rfl,eE h ?_ (λm k=>gT _ k) rfl λc' q=>by cases q⟩
    rw[gS,hs,hg];unfold Q.ns Q.sy;dsimp only;rw[e];rfl
  |some c'=>
   have:c'≠.no:=hc c' (by rw[e];rfl)
   cases c'<;>first|exact absurd rfl this|rfl
 |_=>rfl
end
section
variable{imp:Bool}{t t':T}{σ:Nm->Q}{n:Nm}
theorem LH(σ:Nm->Q)(n:Nm)(a b:Q):SR (SR σ n a) n b=SR σ n b:=funext λm=>by
 by_cases k:m=n
 ·subst k;rw[bD,bD]
 ·rw[dN _ _ k,dN _ _ k,dN _ _ k]
theorem gj(imp:Bool):∀(a b:List (Nm×Ev))(σ:Nm->Q),S0 imp σ (a++b)=match S0 imp σ a with
  |none=>none
  |some σ=>S0 imp σ b
 |[],b,σ=>rfl
 |p::a,b,σ=>by
  show(match SH imp σ p.1 p.2 with
   |none=>none
   |some σ=>S0 imp σ (a++b))=match(match SH imp σ p.1 p.2 with
   |none=>none
   |some σ=>S0 imp σ a)with
   |none=>none
   |some σ=>S0 imp σ b
  cases SH imp σ p.1 p.2 with
  |none=>rfl
  |some σ=>exact gj imp a b σ
theorem gm(imp:Bool)(σ:Nm->Q)(n:Nm)(e:Ev):S0 imp σ [(n,e)]=SH imp σ n e:=by
 show(match SH imp σ n e with
  |none=>none
  |some σ=>some σ)=_
 cases SH imp σ n e<;>rfl
theorem kW(imp:Bool)(σ:Nm->Q)(n m:Nm)(e e':Ev):S0 imp σ [(n,e),(m,e')]=match SH imp σ n e with
  |none=>none
  |some σ=>SH imp σ m e':=by
 show(match SH imp σ n e with
  |none=>none
  |some σ=>S0 imp σ [(m,e')])=_
 cases SH imp σ n e with
 |none=>rfl
 |some σ=>exact gm imp σ m e'
theorem gQ{o:Option T}{r:Option (Nm->Q)}{f:T->Option T}{g:(Nm->Q)->Option (Nm->Q)}(h:fH imp o r)(hf:∀t σ,o=some t->r=some σ->cP imp t σ->fH imp (f t) (g σ)):
  fH imp (match(generalizing:=false) o with|none=>none|some t=>f t) (match(generalizing:=false) r with|none=>none|some σ=>g σ):=by
 cases r with
 |none=>have h:o=none:=h;rw[h];exact rfl
 |some σ=>obtain⟨t,rfl,h⟩:=h;exact hf t σ rfl rfl h
theorem Vo{n:Nm}{imp:Bool}{q q':Q}{e:Ev}(h:q.step n imp e=some q'):q'.any=true:=by obtain⟨u,ty,res,bF,d9,ap,ca,any⟩:=q;unfold Q.step at h;cases e<;>dsimp only at h<;>(repeat' split at h)<;>first|(cases h;done)|(cases h;rfl)
set_option tactic.hygienic true in
theorem uX{n:Nm}{imp:Bool}{σ σ':Nm->Q}{e:Ev}(h:SH imp σ n e=some σ'):(σ' n).any=true:=by
 unfold SH at h;split at h
 ·cases h
 ·rename_i q hq;cases h;rw[bD];exact Vo hq
theorem uY(h:cP imp t σ)(ha:(σ n).any=true):t.need n imp=t:=by
 have h1:(t.get n).sy=some (t.sym n imp):=by rw[fJ h,h.get n];unfold Q.ns;rw[ha]
 unfold T.need;generalize t.sym n imp=x at h1;obtain⟨⟨asy,aty,aap,aca,aex,aco⟩,⟨bsy,bty,bap,bca,bex,bco⟩,⟨csy,cty,cap,cca,cex,cco⟩,⟨isy,ity,iap,ica,iex,ico⟩,⟨ssy,sty,sap,sca,sex,sco⟩,⟨jsy,jty,jap,jca,jex,jco⟩,so,MV,kh,kM,MW,MX⟩:=t;cases n<;>(have h1:_=some x:=h1;dsimp only[T.get]at h1;subst h1;rfl)
noncomputable def Sp.evs:Sp->List (Nm×Ev)
 | .type n k .d0=>[(n,.ty k)]
 | .type n k d=>[(n,.ty k),(n,.dim d)]
 | .dimension n=>[(n,.dim .d3)]
 | .common n c .d0=>[(n,.fV c)]
 | .common n c d=>[(n,.fV c),(n,.dim d)]
 | .param n=>[(n,.par)]
 | .external n=>[(n,.ext)]
 | .aB n=>[(n,.int)]
 | .save n=>[(n,.d9)]
theorem LI(imp:Bool)(σ:Nm->Q)(n:Nm)(c:Cm)(d:Dm):S0 imp σ [(n,.fV c),(n,.dim d)]=S0 imp σ [(n,.dim d),(n,.fV c)]:=by
 rw[kW,kW];unfold SH;cases e:(σ n).u with
 |var o=>
  cases o with
  |none=>simp only[Q.step,e,bD,LH]
  |some c'=>simp only[Q.step,e,bD]
 |arr d' o=>cases o<;>simp only[Q.step,e,bD]
 |_=>simp only[Q.step,e]
theorem Ii(t:T)(n:Nm)(c:Cm)(d:Dm)(hd:d≠.d0)(hn:∀t1,t.c7 imp n d=some t1->t1.need n imp=t1):t.addCom imp n c d=match t.c7 imp n d with
  |none=>none
  |some t1=>t1.addCom imp n c .d0:=by
 unfold T.addCom;cases e:t.c7 imp n d with
 |none=>rfl
 |some t1=>have e1:t1.c7 imp n .d0=some (t1.need n imp):=rfl;dsimp only;rw[e1,hn t1 e]
theorem Eh(h:cP imp t σ)(sp:Sp)(ok:sp.ok=true):fH imp (t.addSpec imp sp) (S0 imp σ sp.evs):=by
 have h2:∀n k d,d≠.d0->fH imp (t.addSpec imp (.type n k d)) (S0 imp σ [(n,.ty k),(n,.dim d)]):=λn k d hd=>by rw[kW];exact gQ (wW h n k) λt1 σ1 _ _ h1=>su h1 n d hd
 have h3:∀n c d,c≠.no->d≠.d0->fH imp (t.addSpec imp (.common n c d)) (S0 imp σ [(n,.fV c),(n,.dim d)]):=λn c d hc hd=>by
  rw[LI,kW];have hdim:=su h n d hd;have e:t.addSpec imp (.common n c d)=match t.c7 imp n d with
   |none=>none
   |some t1=>t1.addCom imp n c .d0:=Ii t n c d hd λt1 e1=>by
    cases e2:SH imp σ n (.dim d)with
    |none=>rw[e2]at hdim;have hdim:t.c7 imp n d=none:=hdim;rw[hdim]at e1;cases e1
    |some σ1=>rw[e2]at hdim;obtain⟨t2,e3,h2⟩:=hdim;rw[e3]at e1;cases e1;exact uY h2 (uX e2)
  rw[e];exact gQ hdim λt1 σ1 _ _ h1=>zG h1 n c hc
 cases sp with
 |type n k d=>
  cases d with
  |d0=>
   show fH imp (match t.gb imp n k with|none=>none|some t=>t.c7 imp n .d0) (S0 imp σ [(n,.ty k)])
   rw[gm];have:=wW h n k;cases e:SH imp σ n (.ty k)with
   |none=>rw[e]at this;have this:t.gb imp n k=none:=this;rw[this];exact rfl
   |some σ1=>rw[e]at this;obtain⟨t1,e1,h1⟩:=this;rw[e1];exact⟨t1.need n imp,rfl,by rw[uY h1 (uX e)];exact h1⟩
  |d1=>exact h2 n k .d1 (by decide)
  |d2=>exact h2 n k .d2 (by decide)
  |d3=>exact h2 n k .d3 (by decide)
 |dimension n=>exact(gm imp σ n (.dim .d3))▸su h n .d3 (by decide)
 |common n c d=>
  have hc:c≠.no:=λe=>by subst e;cases ok
  cases d with
  |d0=>exact(gm imp σ n (.fV c))▸zG h n c hc
  |d1=>exact h3 n c .d1 hc (by decide)
  |d2=>exact h3 n c .d2 hc (by decide)
  |d3=>exact h3 n c .d3 hc (by decide)
 |param n=>exact(gm imp σ n .par)▸zH h n
 |external n=>exact(gm imp σ n .ext)▸Ig h n
 |aB n=>exact(gm imp σ n .int)▸Ih h n
 |save n=>exact⟨_,rfl,LG h n⟩
theorem sA:∀(ps:List Sp){t:T}{σ:Nm->Q},cP imp t σ->(∀p∈ps,p.ok=true)->fH imp (gK imp t ps) (S0 imp σ (ps.flatMap Sp.evs))
 |[],t,σ,h,_=>⟨t,rfl,h⟩
 |p::ps,t,σ,h,ok=>by rw[List.flatMap_cons,gj];exact gQ (Eh h p (ok p (.head _))) λt1 σ1 _ _ h1=>sA ps h1 λq hq=>ok q (.tail _ hq)
noncomputable def cG:List Sp->List Nm×List Sp
 | .param n::r=>(n::(cG r).1,(cG r).2)
 |ps=>([],ps)
noncomputable def gn(L:List Nm):List (Nm×Ev):=L.map λn=>(n,Ev.par)
theorem zI:∀(ps:List Sp){t:T}{σ:Nm->Q}{k:Nat},cP imp t σ->match S0 imp σ (gn (cG ps).1)with
  |none=>TG imp t ps k=none
  |some σ'=>∃t' k',TG imp t ps k=some (t',(cG ps).2,k')/\cP imp t' σ'
 |[],t,σ,k,h=>⟨t,k,rfl,h⟩
 |p::ps,t,σ,k,h=>by
  cases p with
  |param n=>
   show match(match SH imp σ n .par with|none=>none|some σ=>S0 imp σ (gn (cG ps).1))with
    |none=>TG imp t (.param n::ps) k=none
    |some σ'=>∃t' k',TG imp t (.param n::ps) k=some (t',(cG ps).2,k')/\cP imp t' σ'
   have e0:TG imp t (.param n::ps) k=match t.addParam imp n with
    |none=>none
    |some t=>TG imp t ps (k+1):=rfl
   rw[e0];have:=zH h n;cases e:SH imp σ n .par with
   |none=>rw[e]at this;have this:t.addParam imp n=none:=this;rw[this]
   |some σ1=>rw[e]at this;obtain⟨t1,e1,h1⟩:=this;rw[e1];exact zI ps h1
  |_=>exact⟨t,k,rfl,h⟩
theorem uZ:∀ps:List Sp,ps.flatMap Sp.evs=gn (cG ps).1++(cG ps).2.flatMap Sp.evs
 |[]=>rfl
 |p::ps=>by
  cases p with
  |param n=>rw[List.flatMap_cons,uZ ps];rfl
  |_=>rfl
theorem oY:∀(ps:List Sp)(q:Sp),q∈(cG ps).2->q∈ps
 |[],q,h=>h
 |p::ps,q,h=>by
  cases p with
  |param n=>exact .tail _ (oY ps q h)
  |_=>exact h
noncomputable def St.evs:St->List (Nm×Ev)
 | .assign n=>[(n,.app),(.a,.met)]
 | .pP n=>[(n,.met),(.j,.OO),(.i,.met)]
 | .call n=>[(n,.OO)]
 | .read n=>[(n,.app),(.i,.met)]
theorem Ij(h:cP imp t σ)(s:St):∃σ',S0 imp σ s.evs=some σ'/\cP imp (t.note imp s) σ':=by
 cases s with
 |assign n=>refine⟨_,rfl,?_⟩;have:=Cc (gU h .a) n;have e:∀(q:Q->Q),True:=λ_=>trivial;refine(congrArg (cP imp _) (funext λm=>?_)).mp this;cases n<;>cases m<;>rfl
 |pP n=>exact⟨_,rfl,gU (Cd (gU h n) .j) .i⟩
 |call n=>exact⟨_,rfl,Cd h n⟩
 |read n=>refine⟨_,rfl,?_⟩;have:=gU (Cc (gU h .i) n) .i;refine(congrArg (cP imp _) (funext λm=>?_)).mp this;cases n<;>cases m<;>rfl
theorem u5:∀(L:List St){t:T}{σ:Nm->Q},cP imp t σ->∃σ',S0 imp σ (L.flatMap St.evs)=some σ'/\cP imp (gf imp t L) σ'
 |[],t,σ,h=>⟨σ,rfl,h⟩
 |s::L,t,σ,h=>by obtain⟨σ1,e1,h1⟩:=Ij h s;obtain⟨σ2,e2,h2⟩:=u5 L h1;refine⟨σ2,?_,h2⟩;rw[List.flatMap_cons,gj,e1];exact e2
noncomputable def mH:Option Nm->List (Nm×Ev)
 |none=>[]
 |some n=>[(n,.stf),(.j,.met)]
theorem Ik(h:cP imp t σ)(o:Option Nm):fH imp (kK imp t o) (S0 imp σ (mH o)):=by
 cases o with
 |none=>exact⟨t,rfl,h⟩
 |some n=>
  show fH imp _ (S0 imp σ [(n,.stf),(.j,.met)]);rw[kW];have h2:=gU (gU h n) .j;have hs:=fJ h n;have hc:=h.Cs n;have hu:(t.sym n imp).use=(σ n).u.us:=by rw[hs];rfl
  have hd:(t.sym n imp).bF=(σ n).bF:=by rw[hs];rfl
  have hcm:(t.sym n imp).fV=nL (σ n).u.cm:=by rw[hs];rfl
  have e0:kK imp t (some n)=match(match(t.sym n imp).use with
   | .var=>match(t.sym n imp).bF with
    |false=>match(t.sym n imp).fV with
     | .no=>some (((t.need n imp).need .j imp).aY n {((t.need n imp).need .j imp).sym n imp with use:=.aU,val:=.stf})
     |_=>none
    |true=>none
   |_=>none:Option T)with
   |none=>none
   |some t=>some (t.need .j imp):=rfl
  rw[e0,hu,hd,hcm];unfold SH;show fH imp _ (match(match(match(σ n).u with
   | .var none=>match(σ n).bF with
    |true=>none
    |false=>some {σ n with u:=.stf,any:=true}
   |_=>none:Option Q)with
   |none=>none
   |some q=>some (SR σ n q):Option (Nm->Q))with
   |none=>none
   |some σ=>some (SR σ .j {σ .j with any:=true}))
  cases e:(σ n).u with
  |var o=>
   cases o with
   |none=>
    cases ed:(σ n).bF with
    |true=>rfl
    |false=>
     refine⟨_,rfl,?_⟩;have put:cP imp (((t.need n imp).need .j imp).aY n {((t.need n imp).need .j imp).sym n imp with use:=.aU,val:=.stf}) (SR (SR (SR σ n {σ n with any:=true}) .j {SR σ n {σ n with any:=true} .j with any:=true}) n {σ n with u:=.stf,any:=true}):=by
      refine eE h2 ?_ (λm k=>gT _ k) rfl λc' q=>by cases q
      have e1:(SR (SR σ n {σ n with any:=true}) .j {SR σ n {σ n with any:=true} .j with any:=true}) n={σ n with any:=true}:=by
       by_cases k:n=.j
       ·subst k;rw[bD,bD]
       ·rw[dN _ _ k,bD]
      rw[gS,fJ h2,h2.get n,e1];unfold Q.ns Q.sy;dsimp only;rw[e];rfl
     have:=gU put .j;refine(congrArg (cP imp _) (funext λm=>?_)).mp this;cases n<;>cases m<;>rfl
   |some c'=>
    have:c'≠.no:=hc c' (by rw[e];rfl)
    cases ed:(σ n).bF<;>cases c'<;>first|exact absurd rfl this|rfl
  |_=>rfl
end
noncomputable def bV(L:List Nm):List (Nm×Ev):=L.map λn=>(n,Ev.bF)
noncomputable def j6:Option Kl->List (Nm×Ev)
 |none=>[]
 |some k=>[(.b,.ty k)]
noncomputable def j7(kd:Kd)(r:Option Kl)(d:Dl):List (Nm×Ev):=match kd with
 | .func=>j6 r++(bV d.l++[(.b,.res)])
 |_=>bV d.l
noncomputable def Ue(kd:Kd)(r:Option Kl)(d:Dl):List (Nm×Ev):=match kd with
 | .func=>(.b,.res)::(j6 r++bV d.l)
 |_=>bV d.l
section
variable{imp:Bool}{t t':T}{σ:Nm->Q}{n:Nm}
noncomputable def je:(Nm->Q)->List Nm->(Nm->Q)
 |σ,[]=>σ
 |σ,n::L=>je (SR σ n {σ n with bF:=true,any:=true}) L
theorem sC:∀(L:List Nm){σ:Nm->Q},(∀m,(σ m).res=false)->S0 imp σ (bV L)=some (je σ L)/\∀m,(je σ L m).res=false
 |[],σ,h=>⟨rfl,h⟩
 |n::L,σ,h=>by
  have e:SH imp σ n .bF=some (SR σ n {σ n with bF:=true,any:=true}):=by
   unfold SH;show(match(match(σ n).res with|true=>none|false=>some {σ n with bF:=true,any:=true}:Option Q)with|none=>none|some q=>some (SR σ n q))=_
   rw[h n]
  have h1:∀m,((SR σ n {σ n with bF:=true,any:=true}) m).res=false:=λm=>by
   by_cases k:m=n
   ·subst k;rw[bD];exact h m
   ·rw[dN _ _ k];exact h m
  have ih:=sC L h1;refine⟨?_,ih.2⟩;show(match SH imp σ n .bF with|none=>none|some σ=>S0 imp σ (bV L))=_
  rw[e];exact ih.1
theorem sD:∀(L:List Nm){t:T}{σ:Nm->Q},cP imp t σ->cP imp (t.mark imp L) (je σ L)
 |[],t,σ,h=>h
 |n::L,t,σ,h=>sD L (LF h n)
set_option tactic.hygienic true in
theorem A6(h:cP imp t σ)(hr:∀m,(σ m).res=false)(kd:Kd)(d:Dl)(r:Option Kl):fH imp (t.heads imp kd d r) (S0 imp σ (j7 kd r d)):=by
 have plain:fH imp (some (t.mark imp d.l)) (S0 imp σ (bV d.l)):=by rw[(sC d.l hr).1];exact⟨_,rfl,sD d.l h⟩
 cases kd with
 |prog=>exact plain
 |fM=>exact plain
 |func=>
  have fin:∀{t1:T}{σ1:Nm->Q},cP imp t1 σ1->(∀m,(σ1 m).res=false)->fH imp (match(((t1.need .b imp).mark imp d.l).sym .b imp).bF with
    |true=>none
    |false=>some ((t1.need .b imp).mark imp d.l)) (S0 imp σ1 (bV d.l++[(.b,.res)])):=by
   intro t1 σ1 h1 hr1;have h2:=sD d.l (gU h1 .b);have hs:=fJ h2 .b;have hd:(((t1.need .b imp).mark imp d.l).sym .b imp).bF=(je (SR σ1 .b {σ1 .b with any:=true}) d.l .b).bF:=by rw[hs];rfl
   have hd2:(je (SR σ1 .b {σ1 .b with any:=true}) d.l .b).bF=(je σ1 d.l .b).bF:=by cases d<;>rfl
   rw[hd,hd2,gj,(sC d.l hr1).1];dsimp only;rw[gm];unfold SH;show fH imp _ (match(match(je σ1 d.l .b).bF with
    |true=>none
    |false=>some {je σ1 d.l .b with res:=true,any:=true}:Option Q)with
    |none=>none
    |some q=>some (SR (je σ1 d.l) .b q))
   cases e:(je σ1 d.l .b).bF with
   |true=>rfl
   |false=>
    refine⟨_,rfl,?_⟩;have hany:(je (SR σ1 .b {σ1 .b with any:=true}) d.l .b).any=true:=by cases d<;>rfl
    have put:cP imp ((t1.need .b imp).mark imp d.l) (SR (je (SR σ1 .b {σ1 .b with any:=true}) d.l) .b {je (SR σ1 .b {σ1 .b with any:=true}) d.l .b with res:=true,any:=true}):=by refine eE h2 ?_ (λm _=>rfl) rfl (h2.Cs .b);rw[h2.get .b];unfold Q.ns;dsimp only;rw[hany];rfl
    refine(congrArg (cP imp _) (funext λm=>?_)).mp put;cases d<;>cases m<;>rfl
  have e0:t.heads imp .func d r=match t.rF imp r with
   |none=>none
   |some t=>match(((t.need .b imp).mark imp d.l).sym .b imp).bF with
    |true=>none
    |false=>some ((t.need .b imp).mark imp d.l):=rfl
  rw[e0];show fH imp _ (S0 imp σ (j6 r++(bV d.l++[(.b,.res)])));rw[gj];cases r with
  |none=>exact fin h hr
  |some k=>
   have:=wW h .b k;show fH imp _ (match S0 imp σ [(.b,.ty k)]with|none=>none|some σ=>S0 imp σ (bV d.l++[(.b,.res)]))
   rw[gm];show fH imp (match t.gb imp .b k with
    |none=>none
    |some t=>match(((t.need .b imp).mark imp d.l).sym .b imp).bF with
     |true=>none
     |false=>some ((t.need .b imp).mark imp d.l)) _
   refine gQ this λt1 σ1 _ e1 h1=>fin h1 λm=>?_;unfold SH at e1;split at e1
   ·cases e1
   ·rename_i q hq;cases e1;by_cases km:m=.b
    ·subst km;rw[bD];unfold Q.step at hq;dsimp only at hq;split at hq
     ·cases hq
     ·split at hq
      ·cases hq
      ·cases hq;exact hr .b
    ·rw[dN _ _ km];exact hr m
end
noncomputable def jG(w:Raw):List (Nm×Ev):=gn (cG w.qg).1++(j7 w.kd w.r w.d++((cG w.qg).2.flatMap Sp.evs++(mH w.stf++w.sts.flatMap St.evs)))
theorem PY(imp:Bool):cP imp T0 (λ_=>Q0):=⟨λm=>by cases m<;>rfl,λ_ _=>rfl,λm c h=>nomatch h⟩
set_option tactic.hygienic true in
theorem Ce{imp:Bool}:∀(L:List Nm){σ σ':Nm->Q},(∀m,(σ m).res=false)->S0 imp σ (gn L)=some σ'->∀m,(σ' m).res=false
 |[],σ,σ',h,e=>by cases e;exact h
 |n::L,σ,σ',h,e=>by
  have e:(match SH imp σ n .par with|none=>none|some σ=>S0 imp σ (gn L))=some σ':=e
  cases e1:SH imp σ n .par with
  |none=>rw[e1]at e;cases e
  |some σ1=>
   rw[e1]at e;refine Ce L (λm=>?_) e;unfold SH at e1;split at e1
   ·cases e1
   ·rename_i q hq;cases e1;by_cases km:m=n
    ·subst km;rw[bD];unfold Q.step at hq;dsimp only at hq;split at hq
     ·split at hq
      ·cases hq;exact h m
      ·cases hq
     ·cases hq
    ·rw[dN _ _ km];exact h m
theorem Il(w:Raw)(hw:w.ok=true):fH w.imp (SJ w) (S0 w.imp (λ_=>Q0) (jG w)):=by
 have ok:∀p∈w.qg,p.ok=true:=λp hp=>by obtain⟨x,hx,rfl⟩:=List.mem_map.mp hp;exact List.all_eq_true.mp (Bool.and_eq_true_iff.mp hw).2 x hx
 unfold jG SJ;rw[gj];have h1:=zI w.qg (k:=gB w.imp) (PY w.imp);cases e1:S0 w.imp (λ_=>Q0) (gn (cG w.qg).1)with
 |none=>rw[e1]at h1;have h1:TG w.imp T0 w.qg (gB w.imp)=none:=h1;rw[h1];exact rfl
 |some σ1=>rw[e1]at h1;obtain⟨t1,k1,e2,h1⟩:=h1;rw[e2];dsimp only;rw[gj];refine gQ (A6 h1 (Ce _ (λ_=>rfl) e1) w.kd w.d w.r) λt2 σ2 _ _ h2=>?_;rw[gj];refine gQ (sA _ h2 λp hp=>ok p (oY _ p hp)) λt3 σ3 _ _ h3=>?_;rw[gj];refine gQ (Ik h3 w.stf) λt4 σ4 _ _ h4=>?_;obtain⟨σ5,e5,h5⟩:=u5 w.sts h4;rw[e5];exact⟨_,rfl,h5⟩
noncomputable def oR(m:Nm)(L:List (Nm×Ev)):List Ev:=L.filterMap λp=>match decide (p.1=m)with
 |true=>some p.2
 |false=>none
theorem fK(m:Nm)(e:Ev)(L:List (Nm×Ev)):oR m ((m,e)::L)=e::oR m L:=by unfold oR;rw[List.filterMap_cons,decide_eq_true rfl]
theorem jH{m n:Nm}(e:Ev)(L:List (Nm×Ev))(h:n≠m):oR m ((n,e)::L)=oR m L:=by unfold oR;rw[List.filterMap_cons,decide_eq_false h]
theorem eX(m:Nm)(a b:List (Nm×Ev)):oR m (a++b)=oR m a++oR m b:=by unfold oR;rw[List.filterMap_append]
theorem u6{imp:Bool}:∀(L:List (Nm×Ev)){σ σ':Nm->Q},S0 imp σ L=some σ'->∀m,run m imp (σ m) (oR m L)=some (σ' m)
 |[],σ,σ',h,m=>by cases h;rfl
 |(n,e)::L,σ,σ',h,m=>by
  have h:(match SH imp σ n e with|none=>none|some σ=>S0 imp σ L)=some σ':=h
  unfold SH at h;cases e1:(σ n).step n imp e with
  |none=>rw[e1]at h;cases h
  |some q=>
   rw[e1]at h;have ih:=u6 L h m;by_cases k:n=m
   ·subst k;rw[fK];unfold run;rw[e1];rw[bD]at ih;exact ih
   ·rw[jH e L k];rw[dN _ _ (Ne.symm k)]at ih;exact ih
theorem u7{imp:Bool}:∀(L:List (Nm×Ev)){σ:Nm->Q},S0 imp σ L=none->∃m,run m imp (σ m) (oR m L)=none
 |[],σ,h=>by cases h
 |(n,e)::L,σ,h=>by
  have h:(match SH imp σ n e with|none=>none|some σ=>S0 imp σ L)=none:=h
  unfold SH at h;cases e1:(σ n).step n imp e with
  |none=>refine⟨n,?_⟩;rw[fK];unfold run;rw[e1]
  |some q=>
   rw[e1]at h;obtain⟨m,ih⟩:=u7 L h;refine⟨m,?_⟩;by_cases k:n=m
   ·subst k;rw[fK];unfold run;rw[e1];rw[bD]at ih;exact ih
   ·rw[jH e L k];rw[dN _ _ (Ne.symm k)]at ih;exact ih
theorem zJ(f:Us->T)(c:Cm)(ty:Bool):(match c with
  | .no=>match ty with
   |false=>some (f .sub)
   |true=>none
  |_=>none)=match(match c with
  | .no=>match ty with
   |false=>some Us.sub
   |true=>none
  |_=>none)with
  |none=>none
  |some u=>some (f u):=by
 cases c with
 |no=>cases ty<;>rfl
 |_=>rfl
theorem wX(t:T)(n:Nm)(x:Sy):t.setCalled n x=match zC (t.get n).ty x with
  |none=>none
  |some u=>some (t.aY n {x with use:=u}):=by
 obtain⟨kl,dm,us,du,vl,cm,sv⟩:=x;cases us<;>first|rfl|exact zJ (λu=>t.aY n ⟨kl,dm,u,du,vl,cm,sv⟩) cm _
theorem Ei(f:Us->T)(c:Cm)(ca ex du i:Bool):(match c with
  | .no=>match ca with
   |true=>none
   |false=>match ex with
    |true=>some (f .func)
    |false=>match du with
     |true=>some (f .func)
     |false=>match i with
      |true=>some (f .intr)
      |false=>some (f .func)
  |_=>none)=match(match c with
  | .no=>match ca with
   |true=>none
   |false=>match ex with
    |true=>some Us.func
    |false=>match du with
     |true=>some .func
     |false=>match i with
      |true=>some .intr
      |false=>some .func
  |_=>none)with
  |none=>none
  |some u=>some (f u):=by
 cases c with
 |no=>cases ca with
  |true=>rfl
  |false=>cases ex with
   |true=>rfl
   |false=>cases du with
    |true=>rfl
    |false=>cases i<;>rfl
 |_=>rfl
noncomputable def T.appU(t:T)(n:Nm)(x:Sy)(u:Us):Us->T
 | .array=>t
 | .aU=>t
 | .intr=>t
 |_=>t.aY n {x with use:=u}
noncomputable def T.Rk(t:T)(n:Nm)(x:Sy):Option Us->Option T
 |none=>none
 |some u=>some (t.appU n x u x.use)
theorem tM(t:T)(n:Nm)(x:Sy):t.setApplied n x=t.Rk n x (uT n.isI (t.get n).ca (t.get n).ex x):=by obtain⟨kl,dm,us,du,vl,cm,sv⟩:=x;cases us<;>first|rfl|exact Ei (λu=>t.aY n ⟨kl,dm,u,du,vl,cm,sv⟩) cm _ _ du _
noncomputable def lX(t t':T)(n:Nm)(u:Us)(x:Sy):Prop:=t'.get n={t.get n with sy:=some {x with use:=u}}
theorem Cf{x:Sy}{u:Us}(h:x.use=u):{x with use:=u}=x:=by subst h;rfl
theorem Ej{t:T}{n:Nm}{x:Sy}{u:Us}{i ca ex:Bool}(hx:(t.get n).sy=some x)(e1:uT i ca ex x=some u):lX t (t.appU n x u x.use) n u x/\∀m,m≠n->(t.appU n x u x.use).get m=t.get m:=by
 have put:lX t (t.aY n {x with use:=u}) n u x/\∀m,m≠n->(t.aY n {x with use:=u}).get m=t.get m:=⟨gS _ _,λm k=>gT _ k⟩
 have same:x.use=u->lX t t n u x/\∀m,m≠n->t.get m=t.get m:=λe=>⟨by unfold lX;rw[Cf e,<- hx],λ_ _=>rfl⟩
 clear hx;obtain⟨kl,dm,us,du,vl,cm,sv⟩:=x;cases us<;>first|exact same (Option.some.inj e1)|exact put
theorem pO:∀(L:List Nm){t:T},L.Nodup->(∀n∈L,has t n)->match bK t L with
  |none=>∃n∈L,∃x,(t.get n).sy=some x/\zC (t.get n).ty x=none
  |some t'=>∀m,(m∉L->t'.get m=t.get m)/\(m∈L->∃x u,(t.get m).sy=some x/\zC (t.get m).ty x=some u/\lX t t' m u x)
 |[],t,_,_=>λm=>⟨λ_=>rfl,λh=>nomatch h⟩
 |n::L,t,hd,hh=>by
  have hnd:=List.nodup_cons.mp hd;obtain⟨x,hx⟩:=hh n (.head _);have e0:bK t (n::L)=match t.setCalled n x with
   |none=>none
   |some t=>bK t L:=by
   show(match(t.get n).sy with|none=>none|some x=>match t.setCalled n x with|none=>none|some t=>bK t L)=_
   rw[hx]
  rw[e0,wX];cases e1:zC (t.get n).ty x with
  |none=>exact⟨n,.head _,x,hx,e1⟩
  |some u=>
   dsimp only;have g1:∀m,m≠n->(t.aY n {x with use:=u}).get m=t.get m:=λm k=>gT _ k
   have ne:∀m∈L,m≠n:=λm hm e=>hnd.1 (e▸hm);have ih:=pO L (t:=t.aY n {x with use:=u}) hnd.2 λm hm=>qe (hh m (.tail _ hm))
   cases e2:bK (t.aY n {x with use:=u}) L with
   |none=>rw[e2]at ih;obtain⟨m,hm,y,h1,h2⟩:=ih;rw[g1 m (ne m hm)]at h1 h2;exact⟨m,.tail _ hm,y,h1,h2⟩
   |some t'=>
    rw[e2]at ih;intro m;refine⟨λhm=>?_,λhm=>?_⟩
    ·have k:m≠n:=λe=>hm (e▸.head _);exact((ih m).1 λq=>hm (.tail _ q)).trans (g1 m k)
    ·by_cases k:m=n
     ·subst k;refine⟨x,u,hx,e1,?_⟩;unfold lX;rw[(ih m).1 hnd.1,gS]
     ·have hm':m∈L:=(List.mem_cons.mp hm).resolve_left k;obtain⟨y,v,h1,h2,h3⟩:=(ih m).2 hm';rw[g1 m k]at h1 h2;unfold lX at h3;rw[g1 m k]at h3;exact⟨y,v,h1,h2,h3⟩
theorem nN(kd:Kd):∀(L:List Nm){t:T},L.Nodup->(∀n∈L,has t n)->match bz kd t L with
  |none=>∃n∈L,∃x,(t.get n).sy=some x/\(kd.dW n=true\/uT n.isI (t.get n).ca (t.get n).ex x=none)
  |some t'=>∀m,(m∉L->t'.get m=t.get m)/\(m∈L->∃x u,(t.get m).sy=some x/\kd.dW m=false/\uT m.isI (t.get m).ca (t.get m).ex x=some u/\lX t t' m u x)
 |[],t,_,_=>λm=>⟨λ_=>rfl,λh=>nomatch h⟩
 |n::L,t,hd,hh=>by
  have hnd:=List.nodup_cons.mp hd;obtain⟨x,hx⟩:=hh n (.head _);have e0:bz kd t (n::L)=match kd.dW n with
   |true=>none
   |false=>match t.setApplied n x with
    |none=>none
    |some t=>bz kd t L:=by
   show(match kd.dW n with|true=>none|false=>match(t.get n).sy with|none=>none|some x=>match t.setApplied n x with|none=>none|some t=>bz kd t L)=_
   rw[hx]
  rw[e0];cases er:kd.dW n with
  |true=>exact⟨n,.head _,x,hx,.inl er⟩
  |false=>
   rw[tM];cases e1:uT n.isI (t.get n).ca (t.get n).ex x with
   |none=>exact⟨n,.head _,x,hx,.inr e1⟩
   |some u=>
    dsimp only;have ne:∀m∈L,m≠n:=λm hm e=>hnd.1 (e▸hm);obtain⟨g0,g1⟩:=Ej hx e1;show match bz kd (t.appU n x u x.use) L with|none=>_|some t'=>_
    generalize t.appU n x u x.use=t1 at g0 g1 ⊢;have hh1:∀m∈L,has t1 m:=λm hm=>by obtain⟨y,hy⟩:=hh m (.tail _ hm);exact⟨y,by rw[g1 m (ne m hm)];exact hy⟩
    have ih:=nN kd L hnd.2 hh1;cases e2:bz kd t1 L with
    |none=>rw[e2]at ih;obtain⟨m,hm,y,h1,h2⟩:=ih;rw[g1 m (ne m hm)]at h1 h2;exact⟨m,.tail _ hm,y,h1,h2⟩
    |some t'=>
     rw[e2]at ih;intro m;refine⟨λhm=>?_,λhm=>?_⟩
     ·have k:m≠n:=λe=>hm (e▸.head _);exact((ih m).1 λq=>hm (.tail _ q)).trans (g1 m k)
     ·by_cases k:m=n
      ·subst k;refine⟨x,u,hx,er,e1,?_⟩;unfold lX;rw[(ih m).1 hnd.1];exact g0
      ·have hm':m∈L:=(List.mem_cons.mp hm).resolve_left k;obtain⟨y,v,h1,hr,h2,h3⟩:=(ih m).2 hm';rw[g1 m k]at h1 h2;unfold lX at h3;rw[g1 m k]at h3;exact⟨y,v,h1,hr,h2,h3⟩
noncomputable def zK(kd:Kd)(t:T)(m:Nm)(x:Sy):Option Sy:=T4 (kd.dW m) m.isI (t.get m).ty (t.get m).ap (t.get m).ca (t.get m).ex x
theorem nO(kd:Kd){t:T}{L1 L2 L3:List Nm}(n1:L1.Nodup)(n2:L2.Nodup)(n3:L3.Nodup)(m1:∀n,n∈L1↔(t.get n).ca=true)(m2:∀n,n∈L2↔(t.get n).ap=true)(m3:∀n,n∈L3↔has t n)
  (h1:∀n,(t.get n).ca=true->has t n) (h2:∀n,(t.get n).ap=true->has t n):match S8 kd t L1 L2 L3 with
  |none=>∃m x,(t.get m).sy=some x/\zK kd t m x=none
  |some t'=>∀m x,(t.get m).sy=some x->∃x',zK kd t m x=some x'/\(t'.get m).sy=some x':=by
 unfold S8;have c1:=pO L1 n1 λn hn=>h1 n ((m1 n).mp hn);cases e1:bK t L1 with
 |none=>rw[e1]at c1;obtain⟨m,hm,x,hx,hc⟩:=c1;refine⟨m,x,hx,?_⟩;unfold zK T4 uU;rw[(m1 m).mp hm];dsimp only;rw[hc]
 |some t1=>
  rw[e1]at c1;dsimp only;have s1:∀m x,(t.get m).sy=some x->∃u1,uU (t.get m).ca (t.get m).ty x=some u1/\t1.get m={t.get m with sy:=some {x with use:=u1}}:=λm x hx=>by
   by_cases hm:m∈L1
   ·obtain⟨y,u,hy,hu,hs⟩:=(c1 m).2 hm;rw[hx]at hy;cases hy;refine⟨u,?_,hs⟩;unfold uU;rw[(m1 m).mp hm];exact hu
   ·have:(t.get m).ca=false:=by
     cases q:(t.get m).ca with
     |false=>rfl
     |true=>exact absurd ((m1 m).mpr q) hm
    refine⟨x.use,?_,by rw[(c1 m).1 hm,Cf rfl,<- hx]⟩
    unfold uU;rw[this]
  have hh2:∀n∈L2,has t1 n:=λn hn=>by obtain⟨x,hx⟩:=h2 n ((m2 n).mp hn);obtain⟨u1,_,q⟩:=s1 n x hx;exact⟨_,by rw[q]⟩
  have c2:=nN kd L2 n2 hh2;cases e2:bz kd t1 L2 with
  |none=>
   rw[e2]at c2;obtain⟨m,hm,y,hy,hc⟩:=c2;obtain⟨x,hx⟩:=h2 m ((m2 m).mp hm);obtain⟨u1,q1,q2⟩:=s1 m x hx;rw[q2]at hy hc;cases hy;refine⟨m,x,hx,?_⟩;unfold zK T4;rw[q1];dsimp only;have:uV (kd.dW m) m.isI (t.get m).ap (t.get m).ca (t.get m).ex {x with use:=u1}=none:=by
    unfold uV;rw[(m2 m).mp hm];dsimp only at hc ⊢;rcases hc with hc|hc
    ·rw[hc]
    ·cases kd.dW m with
     |true=>rfl
     |false=>exact hc
   rw[this]
  |some t2=>
   rw[e2]at c2;dsimp only;have s2:∀m x,(t.get m).sy=some x->∃u1 u2,uU (t.get m).ca (t.get m).ty x=some u1/\
     uV (kd.dW m) m.isI (t.get m).ap (t.get m).ca (t.get m).ex {x with use:=u1}=some u2/\(t2.get m).sy=some {x with use:=u2}:=λm x hx=>by
    obtain⟨u1,q1,q2⟩:=s1 m x hx;by_cases hm:m∈L2
    ·obtain⟨y,u,hy,hr,hu,hs⟩:=(c2 m).2 hm;rw[q2]at hy hu;cases hy;refine⟨u1,u,q1,?_,by rw[hs]⟩
     unfold uV;rw[(m2 m).mp hm,hr];exact hu
    ·have:(t.get m).ap=false:=by
      cases q:(t.get m).ap with
      |false=>rfl
      |true=>exact absurd ((m2 m).mpr q) hm
     refine⟨u1,u1,q1,?_,by rw[(c2 m).1 hm,q2]⟩
     unfold uV;rw[this]
   have fin:∀m x,(t.get m).sy=some x->∃u2,(t2.get m).sy=some {x with use:=u2}/\zK kd t m x=match p5 kd t2 m with|true=>some {x with use:=u2}|false=>none:=λm x hx=>by obtain⟨u1,u2,q1,q2,q3⟩:=s2 m x hx;refine⟨u2,q3,?_⟩;unfold zK T4 p5;rw[q1];dsimp only;rw[q2,q3];dsimp only;unfold RM;cases kd.dW m<;>rfl
   cases e3:L3.all (p5 kd t2)with
   |true=>intro m x hx;obtain⟨u2,q3,q⟩:=fin m x hx;have:p5 kd t2 m=true:=List.all_eq_true.mp e3 m ((m3 m).mpr ⟨x,hx⟩);rw[this]at q;exact⟨_,q,q3⟩
   |false=>
    obtain⟨m,hm,hc⟩:∃m∈L3,p5 kd t2 m=false:=by
     have:=List.all_eq_false.mp e3;obtain⟨m,hm,q⟩:=this;refine⟨m,hm,?_⟩;cases k:p5 kd t2 m with
     |false=>rfl
     |true=>exact absurd k q
    obtain⟨x,hx⟩:=(m3 m).mp hm;obtain⟨u2,q3,q⟩:=fin m x hx;rw[hc]at q;exact⟨m,x,hx,q⟩
noncomputable def fL(s:LS)(L:List (Nm×Ev)):Prop:=∀m,(s.get m).f=bT (eB (ws (oR m L)))/\(s.get m).ty=Ti (oR m L)/\(s.get m).dm=Tt (oR m L)/\(s.get m).cm=TP (oR m L)
theorem A7:fL NW []:=λm=>by cases m<;>exact⟨rfl,rfl,rfl,rfl⟩
theorem jI{s s':LS}{L:List (Nm×Ev)}{n:Nm}{e:Ev}(h:fL s L)(h1:(s'.get n).f=(s.get n).f++[.str e.w.s])(h2:(s'.get n).ty=Eb (s.get n).ty e)(h3:(s'.get n).dm=Ec (s.get n).dm e)(h4:(s'.get n).cm=Ed (s.get n).cm e)
  (h5:∀m,m≠n->(s'.get m).f=(s.get m).f/\(s'.get m).ty=(s.get m).ty/\(s'.get m).dm=(s.get m).dm/\(s'.get m).cm=(s.get m).cm):fL s' (L++[(n,e)]):=by
 intro m;obtain⟨a,b,c,d⟩:=h m;rw[eX];by_cases k:m=n
 ·subst k;rw[fK,show oR m []=[]from rfl,fG,jd,pK,pL,h1,h2,h3,h4,a,b,c,d];refine⟨?_,rfl,rfl,rfl⟩;unfold eB bT;rw[List.map_append,List.map_append];rfl
 ·rw[jH e [] (Ne.symm k),show oR m []=[]from rfl,List.append_nil];obtain⟨q1,q2,q3,q4⟩:=h5 m k;rw[q1,q2,q3,q4];exact⟨a,b,c,d⟩
theorem VD(s:LS)(n:Nm)(x:LN):(s.set n x).get n=x:=by cases n<;>rfl
theorem A8(s:LS){n m:Nm}(x:LN)(h:m≠n):(s.set n x).get m=s.get m:=by cases n<;>cases m<;>first|rfl|exact absurd rfl h
theorem DO(s:LS)(n:Nm)(w:S):(s.app n w).get n={s.get n with f:=(s.get n).f++[.str w]}:=VD _ _ _
theorem eK(s:LS){n m:Nm}(w:S)(h:m≠n):(s.app n w).get m=s.get m:=A8 _ _ h
theorem TR(s:LS)(n:Nm)(k:Kl):(s.uF n k).get n={s.get n with ty:=some k}:=by cases n<;>rfl
theorem wY(s:LS){n m:Nm}(k:Kl)(h:m≠n):(s.uF n k).get m=s.get m:=by cases n<;>cases m<;>first|rfl|exact absurd rfl h
theorem SN(s:LS)(n:Nm)(k:Dm):(s.pB n k).get n={s.get n with dm:=some k}:=by cases n<;>rfl
theorem jV(s:LS){n m:Nm}(k:Dm)(h:m≠n):(s.pB n k).get m=s.get m:=by cases n<;>cases m<;>first|rfl|exact absurd rfl h
theorem SO(s:LS)(n:Nm)(k:Cm):(s.uG n k).get n={s.get n with cm:=some k}:=by cases n<;>rfl
theorem jW(s:LS){n m:Nm}(k:Cm)(h:m≠n):(s.uG n k).get m=s.get m:=by cases n<;>cases m<;>first|rfl|exact absurd rfl h
section
variable{s:LS}{L:List (Nm×Ev)}
theorem cI(h:fL s L)(n:Nm)(e:Ev)(h1:∀o,Eb o e=o)(h2:∀o,Ec o e=o)(h3:∀o,Ed o e=o):fL (s.app n e.w.s) (L++[(n,e)]):=
 jI h (by rw[DO]) (by rw[DO,h1]) (by rw[DO,h2]) (by rw[DO,h3]) λm k=>by rw[eK _ _ k];exact⟨rfl,rfl,rfl,rfl⟩
theorem nP(h:fL s L)(n:Nm)(k:Kl):fL ((s.app n jX).uF n k) (L++[(n,.ty k)]):=
 jI h (by rw[TR,DO];rfl) (by rw[TR,DO];rfl) (by rw[TR,DO];rfl) (by rw[TR,DO];rfl) λm q=>by rw[wY _ _ q,eK _ _ q];exact⟨rfl,rfl,rfl,rfl⟩
theorem sE(h:fL s L)(n:Nm)(d:Dm):fL ((s.pB n d).app n jY) (L++[(n,.dim d)]):=
 jI h (by rw[DO,SN];rfl) (by rw[DO,SN];rfl) (by rw[DO,SN];rfl) (by rw[DO,SN];rfl) λm q=>by rw[eK _ _ q,jV _ _ q];exact⟨rfl,rfl,rfl,rfl⟩
theorem Ek(h:fL s L)(n:Nm)(d:Dm):fL ((s.app n jY).pB n d) (L++[(n,.dim d)]):=
 jI h (by rw[SN,DO];rfl) (by rw[SN,DO];rfl) (by rw[SN,DO];rfl) (by rw[SN,DO];rfl) λm q=>by rw[jV _ _ q,eK _ _ q];exact⟨rfl,rfl,rfl,rfl⟩
theorem zL(h:fL s L)(n:Nm)(c:Cm):fL ((s.app n ir).uG n c) (L++[(n,.fV c)]):=
 jI h (by rw[SO,DO];rfl) (by rw[SO,DO];rfl) (by rw[SO,DO];rfl) (by rw[SO,DO];rfl) λm q=>by rw[jW _ _ q,eK _ _ q];exact⟨rfl,rfl,rfl,rfl⟩
theorem oZ(h:fL s L)(n:Nm)(c:Cm)(d:Dm):fL ((((s.app n ir).pB n d).app n jY).uG n c) (L++[(n,.fV c),(n,.dim d)]):=by
 have h1:=zL h n c;have:L++[(n,Ev.fV c),(n,.dim d)]=(L++[(n,.fV c)])++[(n,.dim d)]:=by rw[List.append_assoc];rfl
 rw[this];refine jI h1 ?_ ?_ ?_ ?_ λm q=>?_
 ·rw[SO,DO,SN,DO,SO,DO];rfl
 ·rw[SO,DO,SN,DO,SO,DO];rfl
 ·rw[SO,DO,SN,DO,SO,DO];rfl
 ·rw[SO,DO,SN,DO,SO,DO];rfl
 ·rw[jW _ _ q,eK _ _ q,jV _ _ q,eK _ _ q,jW _ _ q,eK _ _ q];exact⟨rfl,rfl,rfl,rfl⟩
theorem El(h:fL s L)(sp:Sp):fL (s.spec sp) (L++sp.evs):=by
 have two:∀(a b:Nm×Ev),L++[a,b]=(L++[a])++[b]:=λa b=>by rw[List.append_assoc];rfl
 cases sp with
 |type n k d=>
  cases d with
  |d0=>exact nP h n k
  |d1=>exact(two _ _)▸sE (nP h n k) n .d1
  |d2=>exact(two _ _)▸sE (nP h n k) n .d2
  |d3=>exact(two _ _)▸sE (nP h n k) n .d3
 |dimension n=>exact Ek h n .d3
 |common n c d=>
  cases d with
  |d0=>exact zL h n c
  |d1=>exact oZ h n c .d1
  |d2=>exact oZ h n c .d2
  |d3=>exact oZ h n c .d3
 |param n=>exact cI h n .par (λ_=>rfl) (λ_=>rfl) (λ_=>rfl)
 |external n=>exact cI h n .ext (λ_=>rfl) (λ_=>rfl) (λ_=>rfl)
 |aB n=>exact cI h n .int (λ_=>rfl) (λ_=>rfl) (λ_=>rfl)
 |save n=>exact cI h n .d9 (λ_=>rfl) (λ_=>rfl) (λ_=>rfl)
theorem sF:∀(ps:List Sp){s:LS}{L:List (Nm×Ev)},fL s L->fL (s.specs ps) (L++ps.flatMap Sp.evs)
 |[],s,L,h=>by rw[List.flatMap_nil,List.append_nil];exact h
 |p::ps,s,L,h=>by rw[List.flatMap_cons,<- List.append_assoc];exact sF ps (El h p)
theorem u9:∀(ds:List Nm){s:LS}{L:List (Nm×Ev)},fL s L->fL (s.tH ds) (L++bV ds)
 |[],s,L,h=>by show fL s (L++[]);rw[List.append_nil];exact h
 |n::ds,s,L,h=>by have:=u9 ds (cI h n .bF (λ_=>rfl) (λ_=>rfl) (λ_=>rfl));rw[List.append_assoc]at this;exact this
theorem Em(h:fL s L)(st:St):fL (s.stmt st) (L++st.evs):=by
 have two:∀(a b:Nm×Ev),L++[a,b]=(L++[a])++[b]:=λa b=>by rw[List.append_assoc];rfl
 have three:∀(a b c:Nm×Ev),L++[a,b,c]=((L++[a])++[b])++[c]:=λa b c=>by rw[List.append_assoc,List.append_assoc];rfl
 cases st with
 |assign n=>exact(two _ _)▸cI (cI h n .app (λ_=>rfl) (λ_=>rfl) (λ_=>rfl)) .a .met (λ_=>rfl) (λ_=>rfl) (λ_=>rfl)
 |pP n=>exact(three _ _ _)▸cI (cI (cI h n .met (λ_=>rfl) (λ_=>rfl) (λ_=>rfl)) .j .OO (λ_=>rfl) (λ_=>rfl) (λ_=>rfl)) .i .met (λ_=>rfl) (λ_=>rfl) (λ_=>rfl)
 |call n=>exact cI h n .OO (λ_=>rfl) (λ_=>rfl) (λ_=>rfl)
 |read n=>exact(two _ _)▸cI (cI h n .app (λ_=>rfl) (λ_=>rfl) (λ_=>rfl)) .i .met (λ_=>rfl) (λ_=>rfl) (λ_=>rfl)
theorem sG:∀(ps:List St){s:LS}{L:List (Nm×Ev)},fL s L->fL (s.stmts ps) (L++ps.flatMap St.evs)
 |[],s,L,h=>by rw[List.flatMap_nil,List.append_nil];exact h
 |p::ps,s,L,h=>by rw[List.flatMap_cons,<- List.append_assoc];exact sG ps (Em h p)
theorem Im(h:fL s L)(o:Option Nm):fL (s.stf o) (L++mH o):=by
 cases o with
 |none=>show fL s (L++[]);rw[List.append_nil];exact h
 |some n=>have:=cI (cI h n .stf (λ_=>rfl) (λ_=>rfl) (λ_=>rfl)) .j .met (λ_=>rfl) (λ_=>rfl) (λ_=>rfl);rw[List.append_assoc]at this;exact this
end
noncomputable def Io(kd:Kd)(r:Option Kl):List (Nm×Ev):=match kd with
 | .func=>(.b,.res)::j6 r
 |_=>[]
theorem Ip(kd:Kd)(r:Option Kl)(d:Dl):Ue kd r d=Io kd r++bV d.l:=by cases kd<;>rfl
theorem En(kd:Kd)(r:Option Kl):fL (LS.head kd r) (Io kd r):=by
 cases kd with
 |prog=>exact A7
 |fM=>exact A7
 |func=>
  have h:=cI A7 .b .res (λ_=>rfl) (λ_=>rfl) (λ_=>rfl);cases r with
  |none=>exact h
  |some k=>exact nP h .b k
noncomputable def sH(w:Raw):List (Nm×Ev):=Ue w.kd w.r w.d++(w.qg.flatMap Sp.evs++(mH w.stf++w.sts.flatMap St.evs))
theorem Iq(w:Raw):fL (uN w) (sH w):=by have h:=sG w.sts (Im (sF w.qg (u9 w.d.l (En w.kd w.r))) w.stf);unfold sH;rw[Ip];rw[List.append_assoc,List.append_assoc]at h;exact h
theorem iG{m:Nm}{e:Ev}{L:List (Nm×Ev)}:e∈oR m L↔(m,e)∈L:=by
 unfold oR;rw[List.mem_filterMap];constructor
 ·rintro ⟨p,hp,h⟩
  cases k:decide (p.1=m)with
  |false=>rw[k]at h;cases h
  |true=>rw[k]at h;have:=of_decide_eq_true k;cases h;rw[<- this];exact hp
 ·intro h;exact⟨_,h,by rw[decide_eq_true rfl]⟩
theorem Eo(kd:Kd)(r:Option Kl)(d:Dl):(j7 kd r d).Perm (Ue kd r d):=by
 cases kd with
 |prog=>exact .refl _
 |fM=>exact .refl _
 |func=>show List.Perm (j6 r++(bV d.l++[(Nm.b,Ev.res)])) ((Nm.b,Ev.res)::(j6 r++bV d.l));rw[<- List.append_assoc];exact List.perm_append_singleton (Nm.b,Ev.res) _
theorem Ir(kd:Kd)(r:Option Kl)(d:Dl):∀p∈j7 kd r d,p.2.w≠.param:=by
 have bF:∀p∈bV d.l,p.2.w≠.param:=λp hp=>by obtain⟨n,_,rfl⟩:=List.mem_map.mp hp;exactλh=>nomatch h
 cases kd with
 |prog=>exact bF
 |fM=>exact bF
 |func=>
  intro p hp;rcases List.mem_append.mp (show p∈j6 r++(bV d.l++[(.b,.res)])from hp)with h|h
  ·cases r with
   |none=>cases h
   |some k=>rw[List.mem_singleton.mp h];exactλh=>nomatch h
  ·rcases List.mem_append.mp h with h|h
   ·exact bF p h
   ·rw[List.mem_singleton.mp h];exactλh=>nomatch h
theorem LJ{kd:Kd}{r:Option Kl}{d:Dl}{p:Nm×Ev}(hp:p∈j7 kd r d)(h:p.2.w=.type):(p.1,Ev.res)∈j7 kd r d:=by
 have bF:∀p∈bV d.l,p.2.w≠.type:=λp hp=>by obtain⟨n,_,rfl⟩:=List.mem_map.mp hp;exactλh=>nomatch h
 cases kd with
 |prog=>exact absurd h (bF p hp)
 |fM=>exact absurd h (bF p hp)
 |func=>
  rcases List.mem_append.mp (show p∈j6 r++(bV d.l++[(.b,.res)])from hp)with q|q
  ·cases r with
   |none=>cases q
   |some k=>rw[List.mem_singleton.mp q];exact List.mem_append_right _ (List.mem_append_right _ (.head _))
  ·rcases List.mem_append.mp q with q|q
   ·exact absurd h (bF p q)
   ·rw[List.mem_singleton.mp q]at h;cases h
theorem wZ{E:List Ev}{w:W}:w∈ws E↔∃e∈E,e.w=w:=List.mem_map
theorem nQ{A B:List W}:kU (A++B)↔kU A/\kU B/\(W.param∈A->W.type∉B):=by unfold kU;rw[List.pairwise_append];exact⟨λ⟨a,b,c⟩=>⟨a,b,λh k=>c _ h _ k ⟨rfl,rfl⟩⟩,λ⟨a,b,c⟩=>⟨a,b,λx hx y hy q=>c (q.1▸hx) (q.2▸hy)⟩⟩
theorem vd{A:List W}(h:W.param∉A):kU A:=List.pairwise_of_forall_mem_list λa ha b hb q=>h (q.1▸ha)
theorem lN{α:Type}(f:α->Ev->α)(hf:∀o,f o .par=o)(m:Nm):∀(L:List Nm)(o:α),(oR m (gn L)).foldl f o=o
 |[],o=>rfl
 |n::L,o=>by
  by_cases k:n=m
  ·subst k;rw[show oR n (gn (n::L))=Ev.par::oR n (gn L)from fK n .par _,List.foldl_cons,hf];exact lN f hf n L o
  ·rw[show oR m (gn (n::L))=oR m (gn L)from jH .par _ k];exact lN f hf m L o
theorem A9{α:Type}(f:α->Ev->α)(h1:∀o,f o .bF=o)(h2:∀o,f o .res=o)(m:Nm)(kd:Kd)(r:Option Kl)(d:Dl)(o:α):(oR m (j7 kd r d)).foldl f o=(oR m (Ue kd r d)).foldl f o:=by
 have bF:∀(L:List Nm)(o:α),(oR m (bV L)).foldl f o=o:=λL=>by
  induction L with
  |nil=>intro o;rfl
  |cons n L ih=>
   intro o;by_cases k:n=m
   ·subst k;rw[show oR n (bV (n::L))=Ev.bF::oR n (bV L)from fK n .bF _,List.foldl_cons,h1];exact ih o
   ·rw[show oR m (bV (n::L))=oR m (bV L)from jH .bF _ k];exact ih o
 cases kd with
 |prog=>rfl
 |fM=>rfl
 |func=>
  show(oR m (j6 r++(bV d.l++[(.b,.res)]))).foldl f o=(oR m ((.b,.res)::(j6 r++bV d.l))).foldl f o;have hres:∀o,(oR m [(.b,.res)]).foldl f o=o:=λo=>by
   by_cases k:Nm.b=m
   ·subst k;rw[fK];exact h2 o
   ·rw[jH .res [] k];rfl
  have e:oR m ((.b,Ev.res)::(j6 r++bV d.l))=oR m [(.b,.res)]++oR m (j6 r++bV d.l):=by rw[<- eX];rfl
  rw[e,eX,eX,eX,List.foldl_append,List.foldl_append,List.foldl_append,List.foldl_append,hres,hres,bF]
theorem kX(w:Raw)(m:Nm):sr (oR m (jG w)) (oR m (sH w)):=by
 let A:=gn (cG w.qg).1
 let B:=(cG w.qg).2.flatMap Sp.evs++(mH w.stf++w.sts.flatMap St.evs)
 have eT:oR m (jG w)=oR m A++(oR m (j7 w.kd w.r w.d)++oR m B):=by rw[<- eX,<- eX];rfl
 have eL:oR m (sH w)=oR m (Ue w.kd w.r w.d)++(oR m A++oR m B):=by unfold sH;rw[uZ,<- eX,<- eX,List.append_assoc]
 have hp:(oR m (j7 w.kd w.r w.d)).Perm (oR m (Ue w.kd w.r w.d)):=(Eo w.kd w.r w.d).filterMap _;have ne1:W.param∉ws (oR m (j7 w.kd w.r w.d)):=λh=>by obtain⟨e,he,k⟩:=wZ.mp h;exact Ir _ _ _ _ (iG.mp he) k
 have ne2:W.param∉ws (oR m (Ue w.kd w.r w.d)):=λh=>ne1 ((hp.map Ev.w).mem_iff.mpr h);have perm:(oR m (jG w)).Perm (oR m (sH w)):=by rw[eT,eL];refine List.Perm.trans ?_ (List.Perm.append_right _ hp);rw[<- List.append_assoc,<- List.append_assoc];exact List.Perm.append_right _ List.perm_append_comm
 have fold:∀{α:Type}(f:Option α->Ev->Option α),(∀o,f o .par=o)->(∀o,f o .bF=o)->(∀o,f o .res=o)->(oR m (jG w)).foldl f none=(oR m (sH w)).foldl f none:=λf h1 h2 h3=>by rw[eT,eL,List.foldl_append,List.foldl_append,List.foldl_append,List.foldl_append,lN f h1,lN f h1,A9 f h2 h3]
 refine⟨perm.map _,fold Eb (λ_=>rfl) (λ_=>rfl) (λ_=>rfl),fold Ec (λ_=>rfl) (λ_=>rfl) (λ_=>rfl),fold Ed (λ_=>rfl) (λ_=>rfl) (λ_=>rfl),λhn=>?_⟩;have wa:∀a b:List Ev,ws (a++b)=ws a++ws b:=λa b=>by unfold ws;rw[List.map_append]
 rw[eT,wa,wa]at hn;rw[eT,eL,wa,wa,wa,wa,nQ,nQ,nQ,nQ];have cross:W.param∈ws (oR m A)->W.type∉ws (oR m (j7 w.kd w.r w.d)):=λh k=>by
  obtain⟨e,he,q⟩:=wZ.mp k;have hr:=LJ (iG.mp he) q;have hr:W.result∈ws (oR m (j7 w.kd w.r w.d)):=wZ.mpr ⟨.res,iG.mpr hr,rfl⟩;have:=mD hn (a:=.param) (b:=.result) (by decide) (List.mem_append_left _ h) (List.mem_append_right _ (List.mem_append_left _ hr))
  rw[fR]at this;cases this
 constructor
 ·rintro ⟨a,⟨b,c,d⟩,e⟩
  exact⟨vd ne2,⟨a,c,λh k=>e h (List.mem_append_right _ k)⟩,λh=>absurd h ne2⟩
 ·rintro ⟨a,⟨b,c,d⟩,e⟩
  refine⟨b,⟨vd ne1,c,λh=>absurd h ne1⟩,λh k=>?_⟩;rcases List.mem_append.mp k with k|k
  ·exact cross h k
  ·exact d h k
noncomputable def d8(w:Raw)(m:Nm):List S:=eB (ws (oR m (sH w)))
theorem Cg{q:Nm×Ev->Bool}{w:Raw}(hp:∀n,q (n,.par)=true)(hd:∀n,q (n,.bF)=true)(ht:∀k,q (.b,.ty k)=true)(hr:w.kd=.func->q (.b,.res)=true)(hs:∀s∈w.qg,s.evs.all q=true)(hf:∀o,(mH o).all q=true)(hst:∀s:St,s.evs.all q=true):(jG w).all q=true:=by
 have bF:∀L:List Nm,(bV L).all q=true:=λL=>by
  induction L with
  |nil=>rfl
  |cons n L ih=>exact kj (hd n) ih
 have par:∀L:List Nm,(gn L).all q=true:=λL=>by
  induction L with
  |nil=>rfl
  |cons n L ih=>exact kj (hp n) ih
 have ap:∀{A B:List (Nm×Ev)},A.all q=true->B.all q=true->(A++B).all q=true:=λ{A B} h k=>by rw[List.all_append,h,k];rfl
 refine ap (par _) (ap ?_ (ap ?_ (ap (hf _) ?_)))
 ·cases e:w.kd with
  |func=>
   refine ap ?_ (ap (bF _) (kj (hr e) rfl));cases w.r with
   |none=>rfl
   |some k=>exact kj (ht k) rfl
  |_=>exact bF _
 ·refine List.all_eq_true.mpr λx hx=>?_;obtain⟨s,h1,h2⟩:=List.mem_flatMap.mp hx;exact List.all_eq_true.mp (hs s (oY _ _ h1)) x h2
 ·refine List.all_eq_true.mpr λx hx=>?_;obtain⟨s,_,h2⟩:=List.mem_flatMap.mp hx;exact List.all_eq_true.mp (hst s) x h2
noncomputable def PZ(p:Nm×Ev):Bool:=p.2.ok
theorem P0{s:Sp}(h:s.ok=true):s.evs.all PZ=true:=by
 cases s with
 |type n k d=>cases d<;>first|rfl|exact nomatch h
 |common n c d=>
  cases c with
  |no=>exact nomatch h
  |_=>cases d<;>rfl
 |_=>rfl
theorem Ou{w:Raw}(hw:w.ok=true):∀p∈jG w,p.2.ok=true:=by
 refine List.all_eq_true.mp (Cg (q:=PZ) (λ_=>rfl) (λ_=>rfl) (λ_=>rfl) (λ_=>rfl) (λs h=>?_) (λo=>?_) λs=>?_)
 ·obtain⟨x,hx,e⟩:=List.mem_map.mp h;exact P0 (e▸List.all_eq_true.mp (ak hw) x hx)
 ·cases o<;>rfl
 ·cases s<;>rfl
theorem Iu{w:Raw}(hw:w.ok=true)(m:Nm):∀e∈oR m (jG w),e.ok=true:=λe he=>Ou hw _ (iG.mp he)
noncomputable def P1(kd:Kd)(p:Nm×Ev):Bool:=match p.2 with
 | .res=>kd.dW p.1
 |_=>true
theorem Ov{w:Raw}{n:Nm}(h:(n,Ev.res)∈jG w):w.kd.dW n=true:=by
 refine List.all_eq_true.mp (Cg (q:=P1 w.kd) (λ_=>rfl) (λ_=>rfl) (λ_=>rfl) (λe=>by rw[e];rfl) (λs _=>?_) (λo=>?_) λs=>?_) (n,.res) h
 ·cases s with
  |type n k d=>cases d<;>rfl
  |common n c d=>cases d<;>rfl
  |_=>rfl
 ·cases o<;>rfl
 ·cases s<;>rfl
theorem Ow{w:Raw}{n:Nm}(h:w.kd.dW n=true):(n,Ev.res)∈jG w:=by
 refine List.mem_append_right _ (List.mem_append_left _ ?_);cases e:w.kd with
 |prog=>rw[e]at h;cases h
 |fM=>rw[e]at h;cases h
 |func=>
  rw[e]at h;have:n=.b:=by cases n<;>first|rfl|cases h
  subst this;exact List.mem_append_right _ (List.mem_append_right _ (.head _))
theorem Ox{e:Ev}(h:e.w=.result):e=.res:=by cases e<;>first|rfl|cases h
theorem VX{w:Raw}{m:Nm}{q:Q}(h:g6 m w.imp q (oR m (jG w))):w.kd.dW m=q.res:=by
 have k:=h.mask .result (by decide)
 rw[wZ]at k;have k2:(∃e∈oR m (jG w),e.w=.result)↔w.kd.dW m=true:=by
  constructor
  ·rintro ⟨e,he,q⟩
   rw[Ox q]at he;exact Ov (iG.mp he)
  ·intro h;exact⟨.res,iG.mpr (Ow h),rfl⟩
 have k3:w.kd.dW m=true↔q.res=true:=k2.symm.trans k;cases a:w.kd.dW m<;>cases b:q.res<;>first|rfl|(rw[a,b]at k3;first|exact k3.mp rfl|exact(k3.mpr rfl).symm▸rfl|exact absurd (k3.mpr rfl) (by decide)|exact absurd (k3.mp rfl) (by decide))
theorem Iv{imp:Bool}{X:Nm->LN}{F:Nm->List S}{m:Nm}(L:List Nm)(w:Wn)(h:m∉L):(Up imp X F w L).get m=w.get m:=by
 induction L generalizing w with
 |nil=>rfl
 |cons n L ih=>exact(ih _ λq=>h (.tail _ q)).trans (zj λe=>h (e▸.head _))
theorem Ep{m:Nm}{v:V}{w:Wn}{l:List S}(h:l≠[]):(Uo w m v l).get m=some v:=by
 cases l with
 |nil=>exact absurd rfl h
 |cons a r=>exact zl _ _ _
theorem Er{imp:Bool}{X:Nm->LN}{F:Nm->List S}{m:Nm}(L:List Nm)(w:Wn)(hd:L.Nodup)(hm:m∈L)(hf:SA (F m)≠[]):(Up imp X F w L).get m=some (To m imp (X m) (SA (F m))):=by
 induction L generalizing w with
 |nil=>exact absurd hm List.not_mem_nil
 |cons n L ih=>
  have hnd:=List.nodup_cons.mp hd;by_cases k:m=n
  ·subst k;exact(Iv L _ hnd.1).trans (Ep hf)
  ·exact ih _ hnd.2 ((List.mem_cons.mp hm).resolve_left k)
theorem LK{imp:Bool}{X:Nm->LN}{F:Nm->List S}(L:List Nm)(w:Wn):(Up imp X F w L).o=w.o++(L.filter λm=>!(SA (F m)).isEmpty).map Nm.str:=by
 induction L generalizing w with
 |nil=>exact(List.append_nil _).symm
 |cons n L ih=>
  refine(ih _).trans ?_;rw[List.filter_cons];unfold Uo;cases e:SA (F n)with
  |nil=>rfl
  |cons a r=>dsimp only;rw[MH,List.append_assoc];rfl
noncomputable def nmI:S->Nm
 |[65]=>.a|[66]=>.b|[67]=>.c|[73]=>.i|[74]=>.j|_=>.s
theorem LL(a:Nm):nmI a.str=a:=by cases a<;>rfl
theorem fT{A B:List Nm}(h:A.map Nm.str=B.map Nm.str):A=B:=by have h:=congrArg (List.map nmI) h;rw[List.map_map,List.map_map,show nmI ∘ Nm.str=id from funext LL,List.map_id,List.map_id]at h;exact h
theorem sI(m:Nm):m∈Ud:=by cases m<;>simp [Ud]
theorem zM{α:Type}{k:Nat}{f:α->List (Nm×Ev)}(h:∀a,Nat.ble (f a).length k=true)(L:List α):(L.flatMap f).length<=k * L.length:=by
 induction L with
 |nil=>exact Nat.le_refl _
 |cons p L ih=>rw[List.flatMap_cons,List.length_append,List.length_cons,Nat.mul_succ,Nat.add_comm];exact Nat.add_le_add ih (Nat.le_of_ble_eq_true (h p))
theorem Iw(kd:Kd)(r:Option Kl)(d:Dl):Nat.ble (Ue kd r d).length 4=true:=by cases kd<;>cases d<;>first|rfl|(cases r<;>rfl)
theorem Oz(s:Sp):Nat.ble s.evs.length 2=true:=by
 cases s with
 |type n k d=>cases d<;>rfl
 |common n c d=>cases d<;>rfl
 |_=>rfl
theorem LO(w:Raw)(h7:w.sp.length<=7)(h3:w.bd.length<=3):(sH w).length<=100:=by
 have c:=Nat.le_of_ble_eq_true (Iw w.kd w.r w.d);have d:(mH w.stf).length<=2:=by cases w.stf<;>exact Nat.le_of_ble_eq_true rfl
 have e1:=zM Oz w.qg;have e2:=zM (f:=St.evs) (k:=3) (λs=>by cases s<;>rfl) w.sts
 rw[show w.qg.length=w.sp.length from List.length_map ..]at e1;rw[show w.sts.length=w.bd.length from List.length_map ..]at e2;have e1:=Nat.le_trans e1 (Nat.mul_le_mul_left 2 h7);have e2:=Nat.le_trans e2 (Nat.mul_le_mul_left 3 h3);unfold sH;rw[List.length_append,List.length_append,List.length_append];exact Nat.le_trans (Nat.add_le_add c (Nat.add_le_add e1 (Nat.add_le_add d e2))) (by decide)
theorem Rl(w:Raw)(hw:w.ok=true)(h7:w.sp.length<=7)(h3:w.bd.length<=3):HQ w (d8 w):=by
 have rl:=Iq w;have hF:∀m,((uN w).get m).f=bT (d8 w m):=λm=>(rl m).1;have gr:=Il w hw;have anyBad:∀m,(SG m w.imp ((uN w).get m) (SA (d8 w m))||bH m (SA (d8 w m)))=true->Ud.any (zh w.imp (uN w).get (d8 w))=true:=λm h=>List.any_eq_true.mpr ⟨m,sI m,h⟩
 have names:∀t,SJ w=some t->∃σ:Nm->Q,cP w.imp t σ/\∀m,g6 m w.imp (σ m) (oR m (jG w)):=λt e=>by
  cases er:S0 w.imp (λ_=>Q0) (jG w)with
  |none=>rw[er]at gr;have gr:SJ w=none:=gr;rw[gr]at e;cases e
  |some σ=>rw[er]at gr;obtain⟨t',e',h⟩:=gr;rw[e']at e;cases e;exact⟨σ,h,λm=>zA (H6 m w.imp) (Iu hw m) (u6 _ er m)⟩
 have fin:∀{t:T}{σ:Nm->Q},cP w.imp t σ->(∀m,g6 m w.imp (σ m) (oR m (jG w)))->∀{m x},(t.get m).sy=some x->
   (σ m).any=true/\zK w.kd t m x=T4 (σ m).res m.isI (σ m).ty.isSome (σ m).ap (σ m).ca (σ m).u.ie ((σ m).sy m w.imp):=λ{t σ} ht hr {m x} hx=>by
  have hg:=ht.get m;have ha:(σ m).any=true:=by
   cases e:(σ m).any with
   |true=>rfl
   |false=>rw[hg]at hx;unfold Q.ns at hx;rw[e]at hx;cases hx
  refine⟨ha,?_⟩;have hx2:x=(σ m).sy m w.imp:=by rw[hg]at hx;unfold Q.ns at hx;rw[ha]at hx;exact(Option.some.inj hx).symm
  unfold zK;rw[hg,hx2,VX (hr m)];rfl
 refine⟨hF,λm=>?_,λh=>?_,λt L1 L2 L3 t' e1 wf c1 c2 c3 es=>?_⟩
 ·unfold d8 eB ws oR;rw[List.length_map,List.length_map];exact Nat.le_trans (List.length_filterMap_le _ _) (Nat.le_trans (LO w h7 h3) (by decide))
 ·rcases h with h|⟨t,L1,L2,L3,e1,wf,c1,c2,c3,es⟩
  ·cases er:S0 w.imp (λ_=>Q0) (jG w)with
   |none=>obtain⟨m,hm⟩:=u7 _ er;have hb:=zB (H6 m w.imp) (Iu hw m) hm;exact anyBad m (Lq (rl m).2.1 (kX w m) hb)
   |some σ=>rw[er]at gr;obtain⟨t',e',_⟩:=gr;rw[e']at h;cases h
  ·obtain⟨σ,ht,hr⟩:=names t e1;obtain⟨A1,a1,a2,a3⟩:=wf.kM;obtain⟨A2,b1,b2,b3⟩:=wf.kh;obtain⟨A3,d1,d2,d3⟩:=wf.so;have k1:A1=L1:=fT (a1.symm.trans c1);have k2:A2=L2:=fT (b1.symm.trans c2);have k3:A3=L3:=fT (d1.symm.trans c3);subst k1 k2 k3;have sn:=nO w.kd a2 b2 d2 a3 b3 d3 wf.ch wf.ah;rw[es]at sn;obtain⟨m,x,hx,hn⟩:=sn;obtain⟨ha,hf⟩:=fin ht hr hx;rw[hf]at hn;exact anyBad m (Ic (rl m).2.1 (rl m).2.2.1 (kX w m) (hr m) hn)
 ·obtain⟨σ,ht,hr⟩:=names t e1;obtain⟨A1,a1,a2,a3⟩:=wf.kM;obtain⟨A2,b1,b2,b3⟩:=wf.kh;obtain⟨A3,d1,d2,d3⟩:=wf.so;have k1:A1=L1:=fT (a1.symm.trans c1);have k2:A2=L2:=fT (b1.symm.trans c2);have k3:A3=L3:=fT (d1.symm.trans c3);subst k1 k2 k3;have sn:=nO w.kd a2 b2 d2 a3 b3 d3 wf.ch wf.ah;rw[es]at sn;have some_of:∀m,(σ m).any=true->∃x,(t.get m).sy=some x:=λm ha=>⟨(σ m).sy m w.imp,by rw[ht.get m];unfold Q.ns;rw[ha]⟩
  have row:∀m x,(t.get m).sy=some x->∃x',(t'.get m).sy=some x'/\(SG m w.imp ((uN w).get m) (SA (d8 w m))||bH m (SA (d8 w m)))=false/\To m w.imp ((uN w).get m) (SA (d8 w m))=rX x':=λm x hx=>by obtain⟨x',h1,h2⟩:=sn m x hx;obtain⟨ha,hf⟩:=fin ht hr hx;rw[hf]at h1;obtain⟨q1,q2⟩:=Ie (rl m).2.1 (rl m).2.2.1 (rl m).2.2.2 (kX w m) (hr m) h1;exact⟨x',h2,q1,q2⟩
  have nofacts:∀m,(σ m).any=false->oR m (sH w)=[]:=λm ha=>by
   have h0:=(hr m).any;rw[ha]at h0;have:oR m (jG w)=[]:=by
    cases e:oR m (jG w)with
    |nil=>rfl
    |cons a r=>rw[e]at h0;cases h0
   have hp:=(kX w m).perm;rw[this]at hp;exact List.map_eq_nil_iff.mp (List.nil_perm.mp hp)
  have somefacts:∀m,(σ m).any=true->SA (d8 w m)≠[]:=λm ha=>by
   have h0:=(hr m).any;rw[ha]at h0;have h1:oR m (jG w)≠[]:=λe=>by rw[e]at h0;cases h0
   intro hn;unfold d8 at hn;rw[qi]at hn;unfold eB at hn;rw[List.map_eq_nil_iff,List.append_eq_nil_iff]at hn;have hp:=(kX w m).perm;rw[hn.1]at hp;exact h1 (List.map_eq_nil_iff.mp (List.perm_nil.mp hp))
  have askNil:∀m,(σ m).any=false->SA (d8 w m)=[]:=λm ha=>by unfold d8;rw[nofacts m ha];rfl
  refine⟨?_,d2,λn hn=>wf.ch n ((a3 n).mp hn),λn hn=>wf.ah n ((b3 n).mp hn),λn hn=>(d3 n).mp hn,Ud.filter (λm=>!(SA (d8 w m)).isEmpty),?_,?_,λm hm=>?_⟩
  ·rw[List.any_eq_false];intro m _ h;have h:(SG m w.imp ((uN w).get m) (SA (d8 w m))||bH m (SA (d8 w m)))=true:=h
   cases ha:(σ m).any with
   |true=>obtain⟨x,hx⟩:=some_of m ha;obtain⟨_,_,q,_⟩:=row m x hx;rw[q]at h;cases h
   |false=>
    rw[askNil m ha]at h;have hty:=(rl m).2.1;have hdm:=(rl m).2.2.1;rw[nofacts m ha]at hty hdm;unfold SG at h;rw[hty,hdm]at h;have:∀imp,(kO [] (Tn (Tt [])) (SD m imp (Ti [])) (mem d7 [])||TZ (oU m []) (SD m imp (Ti []))||bH m [])=false:=λimp=>by cases m<;>cases imp<;>rfl
    rw[this w.imp]at h;cases h
  ·exact(LK Ud zO).trans (List.nil_append _)
  ·refine List.Perm.length_eq ((List.perm_ext_iff_of_nodup d2 (List.Nodup.sublist List.filter_sublist (by decide))).mpr λm=>?_)
   rw[d3,List.mem_filter];constructor
   ·rintro ⟨x,hx⟩
    refine⟨sI m,?_⟩;have:=somefacts m (fin ht hr hx).1;cases e:SA (d8 w m)with
    |nil=>exact absurd e this
    |cons a r=>rfl
   ·rintro ⟨_,h⟩
    cases ha:(σ m).any with
    |true=>exact some_of m ha
    |false=>rw[askNil m ha]at h;cases h
  ·obtain⟨x,hx⟩:=(d3 m).mp hm;obtain⟨x',q1,_,q3⟩:=row m x hx;refine⟨x',q1,?_⟩;rw[Er Ud zO (by decide) (sI m) (somefacts m (fin ht hr hx).1),q3]
theorem Iz(L:List Int)(left n:Nat):(blk (fs aA (n+160)) [(dw,.lst (bk L))] (g0 (left+72)) TJ).Al dR False:=
 Ln (λw hw h7 h3=>⟨d8 w,Rl w hw h7 h3⟩) L left n
abbrev Ci:Nat:=1835101817
noncomputable def bS(L:List Int)(at':Int):By:=.list [.lst (bk L),.int at']
noncomputable def TQ(L:List Int)(at' k:Int):Int:=Int.fmod (L.getD (Int.fmod at' L.length).toNat 0+5 * Int.fdiv at' L.length) k
theorem LP(g:G)(y:Int):S6 g 2 (.int 5) (.int y)=some (.int (5 * y)):=by rfl
theorem LQ(g:G)(x y:Int):S6 g 0 (.int x) (.int y)=some (.int (x+y)):=by rfl
theorem Cj(g:G)(x y:Int)(h:y≠0):S6 g 4 (.int x) (.int y)=some (.int (Int.fmod x y)):=by refine(?_:grd (!decide (y=0)) (some (V.int (Int.fmod x y)))=_);rw[decide_eq_false h];rfl
theorem LR(g:G)(x y:Int)(h:y≠0)(h2:y.natAbs < 1073741824):S6 g 3 (.int x) (.int y)=some (.int (Int.fdiv x y)):=by refine(?_:grd (!decide (y=0)&&decide (y.natAbs < 1073741824)) (some (V.int (Int.fdiv x y)))=_);rw[decide_eq_false h,decide_eq_true h2];rfl
theorem Es(g:G)(L:List Int)(k:Int)(h0:0<=k)(h1:k < L.length)(h2:L.length<=1001):item g (.lst (bk L)) (.int k)=some (.int (L.getD k.toNat 0)):=by
 refine(?_:grd (decide (k<=1000000)&&decide (-1000000<=k)) ((match decide (0<=k)with
  |true=>some k.toNat
  |false=>match decide (0<=k+(bk L).length)with
   |true=>some (k+(bk L).length).toNat
   |false=>none).bind λn=>(bk L)[n]?)=_)
 rw[decide_eq_true (Int.le_of_lt (Int.lt_of_lt_of_le h1 (Int.ofNat_le.mpr (l8 h2 rfl))):k<=1000000),decide_eq_true (Int.le_trans (by decide) h0:-1000000<=k),decide_eq_true h0]
 have hk:k.toNat < L.length:=(Int.toNat_lt h0).mpr h1;refine(?_:(L.map V.int)[k.toNat]?=_);rw[List.getElem?_map,List.getElem?_eq_getElem hk,List.getD_eq_getElem?_getD,List.getElem?_eq_getElem hk];rfl
theorem sJ(x:Int){y:Int}(h:0 < y):0<=Int.fmod x y/\Int.fmod x y < y:=by rw[Int.fmod_eq_emod_of_nonneg x (Int.le_of_lt h)];exact⟨Int.emod_nonneg x (Int.ne_of_gt h),Int.emod_lt_of_pos x h⟩
theorem Et{hp:List (Nat×By)}{left:Nat}{lk:List Nat}{n:Nat}{L:List Int}{at' k:Int}(hlk:lkd lk 0=false)(hL:L≠[])(hz:L.length<=1001)(hk:0 < k):
  (blk (fs qx (n+12)) [(gP,.ref 0),(Ci,.int k)] ⟨(0,bS L at')::hp,left,lk⟩ lZ).Al (λx g=>x=.ret (.int (TQ L at' k))/\g=⟨(0,bS L (at'+1))::hp,left,lk⟩) False:=by
 have hlen:0 < L.length:=List.length_pos_iff.mpr hL;refine aZ (n:=n+11) (ao (v:=.int at') (g:=⟨(0,bS L at')::hp,left,lk⟩) (by kernel_rfl) ?_)
 refine cy ?_;have e1:∀l,(fs qx (n+11)).e (bY [(gP,.ref 0),(Ci,.int k)] 24948 (.int at')) ⟨(0,bS L at')::hp,left,lk⟩ (.bin 0 (.loc 24948) (.int 1))=.ok (.int (at'+1)) ⟨(0,bS L at')::hp,left,lk⟩\/l=0:=λl=>.inl (by kernel_rfl)
 have hset:G.set ⟨(0,bS L at')::hp,left,lk⟩ 0 (bS L (at'+1))=.ok () ⟨(0,bS L (at'+1))::hp,left,lk⟩:=by unfold G.set G.put;rw[hlk];rfl
 refine R.Al.bind.mpr (ao (v:=.int (at'+1)) (g:=⟨(0,bS L at')::hp,left,lk⟩) (by kernel_rfl) (R.Al.bind.mpr (ao (v:=.ref 0) (g:=⟨(0,bS L at')::hp,left,lk⟩) (by kernel_rfl) (R.Al.bind.mpr (ao (v:=.int 1) (g:=⟨(0,bS L at')::hp,left,lk⟩) (by kernel_rfl) ?_)))))
 show((G.set ⟨(0,bS L at')::hp,left,lk⟩ 0 (bS L (at'+1))).bind λ_ g=>.ok (.next (bY [(gP,.ref 0),(Ci,.int k)] 24948 (.int at'))) g:R Fl).Al _ _;rw[hset];refine bu (IF (n:=n+12) ?_);have lenE:∀(Q:V->G->Prop),Q (.int (L.length:Nat)) ⟨(0,bS L (at'+1))::hp,left,lk⟩->∀j,((fs qx (j+4)).e (bY [(gP,.ref 0),(Ci,.int k)] 24948 (.int at')) ⟨(0,bS L (at'+1))::hp,left,lk⟩ (.len (.sub (.loc 7365998) (.int 0)))).Al Q False:=λQ q j=>by
  have hl:(bk L).length=L.length:=by unfold bk;rw[List.length_map]
  refine ao (v:=.int ((bk L).length:Nat)) (g:=⟨(0,bS L (at'+1))::hp,left,lk⟩) (by kernel_rfl) ?_
  rw[hl];exact q
 have ne:(L.length:Int)≠0:=Int.ne_of_gt (Int.ofNat_lt.mpr hlen);have hm:=sJ at' (y:=(L.length:Int)) (Int.ofNat_lt.mpr hlen);refine bW (n:=n+11) (jT (n:=n+10) (jT (n:=n+9) (cK (n:=n+8) (ao (v:=.lst (bk L)) (g:=⟨(0,bS L (at'+1))::hp,left,lk⟩) (by kernel_rfl) (jT (n:=n+7) (aD (n:=n+6) rfl (lenE _ ?_ (n+3))))))))
 refine⟨_,Cj _ _ _ ne,_,Es _ L _ hm.1 hm.2 hz,?_⟩;refine jT (n:=n+8) (ao (v:=.int 5) (g:=⟨(0,bS L (at'+1))::hp,left,lk⟩) (by kernel_rfl) (jT (n:=n+7) (aD (n:=n+6) rfl (lenE _ ?_ (n+3)))))
 refine⟨_,LR _ _ _ ne (Nat.lt_of_le_of_lt hz (by decide)),_,LP _ _,_,LQ _ _ _,?_⟩
 exact aD (n:=n+9) rfl ⟨_,Cj _ _ _ (Int.ne_of_gt hk),rfl,rfl⟩
end Mine
namespace Mine
open PySem PySem.W PySem.Calls PyProof.Rows
noncomputable def Cx.c0(X:Cx):Cx:={X with C:=qx,sl:=0}
noncomputable def w5:Fn:=⟨[7365998,1835101817],[],lZ⟩
theorem Ba{l:List V}(h:TH l=true):∃L,l=bk L:=by
 induction l with
 |nil=>exact⟨[],rfl⟩
 |cons v l ih=>
  cases v with
  |int i=>obtain⟨L,e⟩:=ih h;exact⟨i::L,congrArg (V.int i::·) e⟩
  |_=>exact ff h
section
variable{X:Cx}{f:Fm}{m:Str->Option Value}{γ:Ga}{g:G}{s:Shared}{n:Nat}
inductive w6(g:G)(a:Nat)(vs:List V):R V->Prop
 |st:w6 g a vs .st
 |ask (k:Int) (ha:a=861) (hv:vs=[.ref 0,.int k]) (hg:g.get 0=.pen) (hk:0 < k) (hl:lkd g.lk 0=false):w6 g a vs (.ask k.toNat λr=>.ok (.int (r:Nat)) g)
theorem IA{k:Int}{t:R V} (h:(match g.get 0,decide (0 < k),lkd g.lk 0 with
   | .pen,true,false=>some (.ask k.toNat λr=>.ok (.int (r:Nat)) g)
   |_,_,_=>some .st:Option (R V))=some t):w6 g 861 [.ref 0,.int k] t:=by
 cases e1:g.get 0 with
 |pen=>
  cases e2:decide (0 < k)with
  |true=>
   cases e3:lkd g.lk 0 with
   |false=>rw[e1,e2,e3]at h;exact Option.some.inj h▸.ask k rfl rfl e1 (of_decide_eq_true e2) e3
   |true=>rw[e1,e2,e3]at h;exact Option.some.inj h▸.st
  |false=>rw[e1,e2]at h;exact Option.some.inj h▸.st
 |_=>rw[e1]at h;exact Option.some.inj h▸.st
theorem IB{a:Nat}{vs:List V}{t:R V}(h:VS a vs g=some t):w6 g a vs t:=by
 cases e:Nat.beq a 861 with
 |false=>unfold VS at h;rw[e]at h;exact aL h
 |true=>
  obtain rfl:=Nat.eq_of_beq_eq_true e;clear e;cases vs with
  |nil=>exact Option.some.inj h▸.st
  |cons v vs=>
   cases v with
   |ref i=>
    cases i with
    |succ i=>exact Option.some.inj h▸.st
    |zero=>
     cases vs with
     |nil=>exact Option.some.inj h▸.st
     |cons w ws=>
      cases w with
      |int k=>
       cases ws with
       |nil=>exact IA h
       |cons _ _=>exact Option.some.inj h▸.st
      |_=>exact Option.some.inj h▸.st
   |_=>exact Option.some.inj h▸.st
theorem LU(h:g.get 0=.pen):aT g.hp 0=some .pen:=by
 have h:(match aT g.hp 0 with|some c=>c|none=>.free:By)=.pen:=h
 cases e:aT g.hp 0 with
 |none=>rw[e]at h;exact nomatch h
 |some c=>rw[e]at h;exact congrArg some h
theorem P4{α:Type}(c:α)(hp:List (Nat×α)){i:Nat}{c':α}(h:aT ((0,c)::hp) i=some c'):(i=0/\c'=c)\/(i≠0/\aT hp i=some c'):=by
 have h:(match Nat.beq 0 i with|true=>some c|false=>aT hp i)=some c':=h
 cases e:Nat.beq 0 i with
 |true=>rw[e]at h;exact .inl ⟨(Nat.eq_of_beq_eq_true e).symm,(Option.some.inj h).symm⟩
 |false=>rw[e]at h;exact .inr ⟨λq=>(by rw[q]at e;cases e),h⟩
theorem Eu{γ1:Ga}{L:List Int}{at':Int}{hp:List (Nat×By)}{left:Nat}{lk:List Nat}(hg:aT hp 0=some .pen)(gk:X.gq γ1 ⟨(0,bS L at')::hp,left,lk⟩)(h0:0<=at')(hL:L≠[])(hz:L.length<=1001):X.gq γ1 ⟨hp,left,lk⟩:=by
 refine⟨gk.nd,gk.md,gk.nU,λi c hc=>?_,gk.ju,gk.lf,gk.sL,gk.tO⟩;by_cases e:i=0
 ·subst e;rw[hg]at hc;cases hc;obtain⟨pa,its,nn,hr,hm,rs,_⟩:=gk.cell 0 (bS L at') rfl;replace rs:=rs.cons_inv;obtain⟨_,_,rfl,r1,rs⟩:=rs;replace rs:=rs.cons_inv;obtain⟨_,_,rfl,r2,rs⟩:=rs;cases rs;replace r1:=r1.lst_inv;obtain⟨_,_,_,rfl,hat,hrs,hzz⟩:=r1;replace r2:=r2.int_inv;obtain⟨t,rfl⟩:=r2;have hl:(bk L).length=L.length:=by unfold bk;rw[List.length_map]
  exact⟨pa,_,hr,hm,_,at',t,nn,_,_,bk L,rfl,h0,hat,hrs,oW L,λe=>hL (by cases L with|nil=>rfl|cons _ _=>cases e),Nat.le_trans (Nat.le_of_eq hl) hz⟩
 ·refine gk.cell i c ?_;show(match Nat.beq 0 i with|true=>some (bS L at')|false=>aT hp i)=some c
  have:Nat.beq 0 i=false:=by
   cases q:Nat.beq 0 i with
   |true=>exact absurd (Nat.eq_of_beq_eq_true q).symm e
   |false=>rfl
  rw[this];exact hc
theorem Ew(gk:X.gq γ g)(hg:aT g.hp 0=some .pen):∃L at',X.gq γ ⟨(0,bS L at')::g.hp,g.left,g.lk⟩/\L≠[]/\L.length<=1001/\0<=at':=by
 obtain⟨pa,o,hr,hm,la,at',t,nn,xs,nn2,l,ho,h0,hat,hrs,hi,hne,hz⟩:=gk.cell 0 _ hg;obtain⟨L,rfl⟩:=Ba hi;have hl:(bk L).length=L.length:=by unfold bk;rw[List.length_map]
 refine⟨L,at',⟨gk.nd,gk.md,gk.nU,λi c hc=>?_,gk.ju,gk.lf,gk.sL,gk.tO⟩,λe=>hne (by rw[e];rfl),Nat.le_trans (Nat.le_of_eq hl.symm) hz,h0⟩
 rcases P4 _ _ hc with⟨rfl,rfl⟩|⟨_,hc⟩
 ·refine⟨pa,[.ref la,.int at' t],nn,hr,by rw[ho]at hm;exact hm,.cons (.lst hat hrs (l8 hz rfl)) (.cons (.int _ _) .nil),?_⟩
  have:=gk.lf;show 2+g.left<=1000000;exact l8 (Nat.add_le_add_left this 2) rfl
 ·exact gk.cell i c hc
theorem w7(L:List Int)(at':Int){k:Int}(h:0 < k):0<=TQ L at' k/\TQ L at' k < k:=sJ _ h
theorem Ex(hC:X.C=aA)(hsl:X.sl=13)(H:∀n,SS X.c0 n (fs qx n).s){kk:Nat}(FO:vX X.c0 kk 861 w5)(n:Nat)(f:Fm)(m:Str->Option Value)(g:G)(γ:Ga)(s:Shared)(a:Nat)(vs:List V)(us:List Value)(t:R V)
  (O:bB X f (n+1)) (Z:aO X f m γ g s.heap) (rs:X.cH γ us vs) (hp:X.C.prim a vs g=some t):dh X f m (λγ' b a=>X.RV γ' b a) t (call (.ref a) us) γ s:=by
 rw[hC]at hp;rcases IB hp with _|⟨k,rfl,rfl,hg,hk,hlk⟩
 ·exact dh.stop
 ·have hg:=LU hg;obtain⟨L,at',gk',hL,hz,h0⟩:=Ew Z.gk hg;intro Φ Ψ Q E hA hE hQ;have Z':aO X.c0 f m γ ⟨(0,bS L at')::g.hp,g.left,g.lk⟩ s.heap:=⟨Z.F,Z.N,gk'⟩;have O0:bB X.c0 f 0:=⟨O.B,O.fr,O.X₀,O.T,O.hh,O.kind,O.kl,O.kc,O.cn,Nat.lt_of_le_of_lt (Nat.add_le_add_left (Nat.zero_le _) _) O.dp,Nat.lt_of_le_of_lt (Nat.add_le_add_right (Nat.add_le_add_left (Nat.zero_le _) _) 100) O.un⟩;have body:=Et (n:=0) (left:=g.left) (at':=at') (hp:=g.hp) hlk hL hz hk;refine wpAny_call (Vj (X:=X.c0) (n:=12) (f':=fs qx 12) (fd:=w5) (us:=us) (vs:=[.ref 0,.int k]) (Ψ:=False) O0 O.fr O.hh (by have:=O.dp;rw[hsl]at this;exact QU this) (by have:=O.un;rw[hsl]at this;exact QV this) FO (H 12) rs rfl Z' body.out (λz=>z.elim) λx g' γ' u h' tk p e Z1 r=>?_)
  obtain⟨rfl,rfl⟩:=p;have r:X.RV γ' u (.int (TQ L at' k)):=r;have hr:=w7 L at' hk;have Zn:aO X f m γ' g h':=⟨Z1.F,Z1.N,Eu hg Z1.gk (Int.le_of_lt (Int.lt_add_one_of_le h0)) hL hz⟩;have hi:((TQ L at' k).toNat:Int)=TQ L at' k:=Int.toNat_of_nonneg hr.1;have hA':=hA (TQ L at' k).toNat ((Int.toNat_lt_toNat hk).mpr hr.2);have hA2:Φ (.int ((TQ L at' k).toNat:Nat)) g:=hA';exact hQ _ g γ' u h' tk hA2 e Zn (by rw[hi];exact r)
end
noncomputable def Ck(K:Frag)(a:Addr):Obj:=(K.lookup a).getD default
noncomputable def Wl:Data->FuncData
 | .func d=>d
 |_=>default
noncomputable def Vp:FuncBody->List Stmt
 | .stmts b=>b
 |_=>[]
noncomputable def MO(d:FuncData):FuncData:=fnOf d.name d.qualname d.params (Vp d.body) d.scope d.defaults d.kwdefaults d.doc d.pyModule d.annotations d.code d.closureTuple
noncomputable def iX(K:Frag)(a:Addr):FuncData:=Wl (Ck K a).data
noncomputable def VE(K:Frag)(a:Addr):Option Obj:=some ⟨(Ck K a).cls,(Ck K a).dict,.func (MO (iX K a)),(Ck K a).slots⟩
noncomputable def LV:Nat->Type
 |0=>Sem (List (Str×Value))
 |n+1=>Value->LV n
noncomputable def cur:(n:Nat)->(List Value->Sem (List (Str×Value)))->LV n
 |0,f=>f []
 |n+1,f=>λu=>cur n λus=>f (u::us)
theorem OA{f g:List Value->Sem (List (Str×Value))}{us:List Value}:cur us.length f=cur us.length g->f us=g us:=by
 induction us generalizing f g with
 |nil=>exactλh=>h
 |cons u us ih=>exactλh=>ih (congrFun h u)
noncomputable def Vq(d:FuncData)(n:Nat):Sigma LV:=⟨n,cur n λus=>bindArgs d ⟨us,[]⟩⟩
noncomputable def Cn(ps:List Nat):Sigma LV:=⟨ps.length,cur ps.length λus=>pure ((ps.map nm).zip us)⟩
theorem LW{d:FuncData}{ps:List Nat}{us:List Value}(h:Vq d ps.length=Cn ps)(hl:us.length=ps.length):bindArgs d ⟨us,[]⟩=pure ((ps.map nm).zip us):=by refine OA (f:=λus=>bindArgs d ⟨us,[]⟩) (g:=λus=>pure ((ps.map nm).zip us)) ?_;rw[hl];exact eq_of_heq (Sigma.mk.inj h).2
theorem Ey{ps:List Nat}{vs:List V}{l:Loc}(h:Tj ps vs []=some l):vs.length=ps.length/\l=ps.zip vs:=by
 induction ps generalizing vs l with
 |nil=>
  cases vs with
  |nil=>exact⟨rfl,(Option.some.inj h).symm⟩
  |cons _ _=>exact aL h
 |cons x ps ih=>
  cases vs with
  |nil=>exact aL h
  |cons v vs=>
   obtain⟨r,hr,e⟩:=Option.map_eq_some_iff.mp (show(Tj ps vs []).map ((x,v)::·)=some l from h)
   obtain⟨h1,h2⟩:=ih hr;exact⟨congrArg Nat.succ h1,e.symm.trans (congrArg ((x,v)::·) h2)⟩
theorem IC{d:List V}(hd:d≠[]){ps:List Nat}{vs:List V}{l:Loc}(h:Tj ps vs d=some l):vs.length+d.length=ps.length/\l=ps.zip (vs++d):=by
 induction ps generalizing vs l with
 |nil=>
  cases vs with
  |nil=>
   cases d with
   |nil=>exact absurd rfl hd
   |cons _ _=>exact aL h
  |cons _ _=>exact aL h
 |cons x ps ih=>
  cases vs with
  |nil=>
   have h:(match Nat.beq (ps.length+1) d.length with|true=>some ((x::ps).zip d)|false=>none)=some l:=h
   cases e:Nat.beq (ps.length+1) d.length with
   |false=>rw[e]at h;exact aL h
   |true=>rw[e]at h;exact⟨(Nat.zero_add _).trans (Nat.eq_of_beq_eq_true e).symm,(Option.some.inj h).symm⟩
  |cons v vs=>
   obtain⟨r,hr,e⟩:=Option.map_eq_some_iff.mp (show(Tj ps vs d).map ((x,v)::·)=some l from h)
   obtain⟨h1,h2⟩:=ih hr;exact⟨(Nat.add_right_comm _ _ _).trans (congrArg Nat.succ h1),e.symm.trans (congrArg ((x,v)::·) h2)⟩
noncomputable def VY:List Str->Bool
 |[]=>true
 |x::r=>!r.contains x&&VY r
theorem ID{β:Type}{a:Str}{ns:List Str}{us:List β}(h:a∉ns):(ns.zip us).reverse.lookup a=none:=by rw[List.lookup_eq_none_iff];exactλp hp=>Bool.not_eq_true' _▸beq_false_of_ne λe=>h (by rw[e];exact(List.of_mem_zip (List.mem_reverse.mp hp)).1)
section
variable{prog:Program}{w:World}{K:Frag}{γ:Ga}
set_option tactic.hygienic true in
theorem OB{x:Nat}{v:V}{ps:List Nat}{us:List Value}{vs:List V}(rs:cH prog w K γ us vs)(hd:VY (ps.map nm)=true)(h:aT (ps.zip vs) x=some v):
  ∃u,((ps.map nm).zip us).reverse.lookup (nm x)=some u/\RV prog w K γ u v:=by
 induction ps generalizing us vs with
 |nil=>exact aL h
 |cons p ps ih=>
  cases rs with
  |nil=>exact aL h
  |cons r rs=>
   rename_i u y us vs;have hz:(((p::ps).map nm).zip (u::us)).reverse.lookup (nm x)=(((ps.map nm).zip us).reverse.lookup (nm x)).or ([(nm p,u)].lookup (nm x)):=by rw[<- List.lookup_append,<- List.reverse_cons];rfl
   rw[hz];have h:(match Nat.beq p x with|true=>some y|false=>aT (ps.zip vs) x)=some v:=h
   cases e:Nat.beq p x with
   |true=>
    rw[e]at h;refine⟨u,?_,Option.some.inj h▸r⟩;rw[<- Nat.eq_of_beq_eq_true e,ID λm=>by have:=aj hd;rw[List.contains_iff_mem.mpr m]at this;exact ff this]
    rw[List.lookup_cons,beq_self_eq_true];rfl
   |false=>rw[e]at h;obtain⟨u',h1,h2⟩:=ih rs (ak hd) h;exact⟨u',by rw[h1];rfl,h2⟩
end
theorem Co{b:Bool}(h:(!b)=true):b=false:=by
 cases b with
 |true=>exact ff h
 |false=>rfl
noncomputable def IE(sc:Scope)(ps:List Nat):Bool:=!sc.isCoroutine&&(!sc.isGenerator&&(sc.kind==.function&&(qR sc&&(VY (ps.map nm)&&(ps.map nm).all (λx=>sc.names.lookup x==some .local||sc.names.lookup x==some .cell)))))
noncomputable def EE(K:Frag)(C:Cfg)(kk:Nat)(d:FuncData)(fd:Fn):Bool:=codeIn K d.code d.qualname&&(BY (gv K C d.scope kk) fd.body (Vp d.body)&&IE d.scope fd.ps)
section
variable{X:Cx}{kk a:Nat}{fd:Fn}
theorem MP(ho:X.K.lookup a=VE X.K a)(h:EE X.K X.C kk (iX X.K a) fd=true)
  (hbi:∀(γ:Ga)(s:Shared)(us:List Value)(vs:List V)(l:Loc),X.K.In s.heap->X.cH γ us vs->Tj fd.ps vs fd.df=some l->
   ∃us' vs',BindsTo s (MO (iX X.K a)) ⟨us,[]⟩ ((fd.ps.map nm).zip us')/\X.cH γ us' vs'/\l=fd.ps.zip vs'):vX X kk a fd:=by
 have q:=ak (ak h);have q2:=ak (ak (ak q));refine .mk _ _ _ _ _ _ _ _ _ _ _ _ _ _ _ ho (aj h) (aj (ak h)) (Co (aj q)) (Co (aj (ak q))) (eq_of_beq (aj (ak (ak q)))) (aj q2) λγ s us vs l hX rs hb=>?_;obtain⟨us',vs',h1,h2,h3⟩:=hbi γ s us vs l hX rs hb;exact⟨_,h1,λy hy=>Or.imp eq_of_beq eq_of_beq (Bool.or_eq_true_iff.mp (List.all_eq_true.mp (ak (ak q2)) y.1 (List.of_mem_zip hy).1)),λx v hx=>OB h2 (aj (ak q2)) (h3▸hx)⟩
theorem IG(hdf:fd.df=[])(ho:X.K.lookup a=VE X.K a)(hb:Vq (MO (iX X.K a)) fd.ps.length=Cn fd.ps)(h:EE X.K X.C kk (iX X.K a) fd=true):vX X kk a fd:=by refine MP ho h λγ s us vs l hX rs q=>?_;rw[hdf]at q;obtain⟨h1,h2⟩:=Ey q;exact⟨us,vs,BindsTo.of_eq (LW hb (rs.length.trans h1)),rs,h2⟩
theorem LX{x0 T nn:Nat}{xs:List Nat}{items:List Value}{c:Value}{dd:Option Addr}{sl:Array (Option Value)}(hps:fd.ps=x0::xs)(hdf:fd.df≠[])(hl:xs.length=fd.df.length)(ho:X.K.lookup a=VE X.K a)(h:EE X.K X.C kk (iX X.K a) fd=true)
  (hT:X.K.lookup T=some ⟨c,dd,.seq items.toArray nn,sl⟩) (hd:(iX X.K a).defaults=.ref T) (hr:∀γ,X.cH γ items fd.df)
  (hk:∀u,∃k,bindArgs (MO (iX X.K a)) ⟨[u],[]⟩=seqItems? (MO (iX X.K a)).defaults>>=k/\k (some items.toArray)=pure ((fd.ps.map nm).zip (u::items))):vX X kk a fd:=by
 refine MP ho h λγ s us vs l hX rs q=>?_;obtain⟨h1,h2⟩:=IC hdf q;rw[hps,List.length_cons,hl,Nat.add_comm]at h1;have h1:us.length=1:=rs.length.trans (Nat.add_left_cancel h1);clear q;cases us with
 |nil=>exact nomatch h1
 |cons u us=>
  cases us with
  |cons _ _=>exact nomatch h1
  |nil=>obtain⟨k,k1,k2⟩:=hk u;exact⟨u::items,vs++fd.df,BindsTo.of_defaults hd (hX _ _ hT) rfl k1 k2,rs.append (hr γ),h2⟩
end
noncomputable def Vr:Data->Option (List Value×Nat)
 | .seq xs n=>some (xs.toList,n)
 |_=>none
theorem II{d:Data}{p:List Value×Nat}(h:Vr d=some p):d=.seq p.1.toArray p.2:=by cases d<;>first|exact aL h|exact(Option.some.inj h)▸rfl
noncomputable def VF(o:Obj):Option (List Value×Nat):=bif decide (o.cls=.type "tuple")&&(decide (o.dict=none)&&decide (o.slots=#[]))then Vr o.data else none
theorem LY{o:Obj}{p:List Value×Nat}(h:VF o=some p):o=iJ p.1 p.2:=by
 obtain⟨c,d,dt,sl⟩:=o;have h:(bif decide (c=.type "tuple")&&(decide (d=none)&&decide (sl=#[]))then Vr dt else none)=some p:=h;cases e:decide (c=.type "tuple")&&(decide (d=none)&&decide (sl=#[]))with
 |false=>rw[e]at h;exact aL h
 |true=>rw[e]at h;rw[of_decide_eq_true (aj e),of_decide_eq_true (aj (ak e)),of_decide_eq_true (ak (ak e)),II h]
noncomputable def U7(r:Value->Option V):List Value->Option (List V)
 |[]=>some []
 |u::us=>(r u).bind λv=>(U7 r us).map (v::·)
noncomputable def Wd(K:Frag)(r:Value->Option V)(a:Addr):Option (List Value×Nat)->Option V
 |some p=>(U7 r p.1).bind λl=>bif Nat.ble l.length 100 then some (.tup l)else none
 |none=>some (.fn a)
noncomputable def VO(K:Frag)(r:Value->Option V):Value->Option V
 | .none=>some .none
 | .int i _=>some (.int i)
 | .str s _=>bif sok s.cps.toList then some (.str s.cps.toList)else none
 | .ref a=>Wd K r a ((K.lookup a).bind VF)
 |_=>none
noncomputable def vOf(K:Frag):Nat->Value->Option V
 |0=>λ_=>none
 |n+1=>VO K (vOf K n)
section
variable{prog:Program}{w:World}{K:Frag}{γ:Ga}{r:Value->Option V}
theorem Cp(hr:∀u v,r u=some v->RV prog w K γ u v){us:List Value}{l:List V}(h:U7 r us=some l):cH prog w K γ us l:=by
 induction us generalizing l with
 |nil=>exact Option.some.inj h▸.nil
 |cons u us ih=>
  obtain⟨v,h1,h⟩:=Option.bind_eq_some_iff.mp (show(r u).bind (λv=>(U7 r us).map (v::·))=some l from h)
  obtain⟨l',h2,e⟩:=Option.map_eq_some_iff.mp h;exact e▸.cons (hr u v h1) (ih h2)
theorem ve{α:Type}{b:Bool}{x y:α}(h:(bif b then some x else none)=some y):b=true/\x=y:=by
 cases b with
 |false=>exact aL h
 |true=>exact⟨rfl,Option.some.inj h⟩
theorem LZ(hr:∀u v,r u=some v->RV prog w K γ u v){a:Addr}{v:V}(h:Wd K r a ((K.lookup a).bind VF)=some v):RV prog w K γ (.ref a) v:=by
 cases e:(K.lookup a).bind VF with
 |none=>rw[e]at h;exact Option.some.inj h▸.fn a
 |some p=>rw[e]at h;obtain⟨l,h1,h2⟩:=Option.bind_eq_some_iff.mp (show(U7 r p.1).bind (λl=>bif Nat.ble l.length 100 then some (V.tup l)else none)=some v from h);obtain⟨o,h3,h4⟩:=Option.bind_eq_some_iff.mp e;obtain⟨h5,h6⟩:=ve h2;exact h6▸.tup (.inr (LY h4▸h3)) (Cp hr h1) (Nat.le_trans (Nat.le_of_ble_eq_true h5) (by decide))
theorem IJ(hr:∀u v,r u=some v->RV prog w K γ u v){u:Value}{v:V}(h:VO K r u=some v):RV prog w K γ u v:=by
 cases u with
 |none=>exact Option.some.inj h▸.none
 |int i t=>exact Option.some.inj h▸.int i t
 |str s t=>obtain⟨h1,h2⟩:=ve (show(bif sok s.cps.toList then some (V.str s.cps.toList)else none)=some v from h);exact h2▸.str s.cps.toList t h1
 |ref a=>exact LZ hr h
 |_=>exact aL h
theorem IK{n:Nat}{u:Value}{v:V}(h:vOf K n u=some v):RV prog w K γ u v:=by
 induction n generalizing u v with
 |zero=>exact aL h
 |succ n ih=>exact IJ (λ_ _ q=>ih q) h
end
noncomputable def RN(K:Frag)(p:Nat×EM):Bool:=(plainGet K p.1 ""&&hasDictIn K p.1)&&((makesIn K p.1&&(findIn K (.ref p.1) "__init__"==some (some (.ref p.2.init))&&isFn K (.ref p.2.init)))&&((findIn K (.ref p.1) "__setattr__"==some (some (.builtin "object.__setattr__"))&&plainOver K p.1)&&
 p.2.ms.all λq=>findIn K (.ref p.1) (toS q.1)==some (some (.ref q.2))&&isFn K (.ref q.2)))
theorem IL:(Be.all λp=>Nat.ble p.2.length 100)=true:=by kernel_rfl
theorem IM(i:Nat):(tmpl i).length<=100:=by
 refine(?_:((aT Be i).getD []).length<=100);cases e:aT Be i with
 |none=>exact Nat.zero_le _
 |some l=>exact Nat.le_of_ble_eq_true (List.all_eq_true.mp IL _ (fZ e))
theorem VG{C:Cfg}{a:Nat}(h:SP C a=true):(∃d,(a,d)∈C.ft)\/∃d,(a,d)∈C.ct:=by
 have h:(match aT C.ft a with|some _=>true|none=>match aT C.ct a with|some _=>true|none=>false)=true:=h
 cases e:aT C.ft a with
 |some d=>exact .inl ⟨d,fZ e⟩
 |none=>
  rw[e]at h;cases e:aT C.ct a with
  |some d=>exact .inr ⟨d,fZ e⟩
  |none=>rw[e]at h;exact ff h
theorem OC{X:Cx}(hT:X.C.tmpl=tmpl)(h1:(bis.all λx=>nsIn X.K mainGlobals x==some none)=true)(h2:X.C.ct.all (RN X.K)=true)(h3:((X.C.ft.all λp=>keepIn X.K (.ref p.1))&&(X.C.ct.all λp=>keepIn X.K (.ref p.1)))=true)(h4:(X.C.gt.map λp=>(nsIn X.K mainGlobals (nm p.1)).bind λu=>u.bind (vOf X.K 5))=X.C.gt.map λp=>some p.2)(h5:(X.K.lookup 1).isSome=true):fY X:=by
 have q:=λ{c k} (h:aT X.C.ct c=some k)=>List.all_eq_true.mp h2 (c,k) (fZ h);refine⟨λx hx=>eq_of_beq (List.all_eq_true.mp h1 x hx),λc k h=>⟨aj (aj (q h)),ak (aj (q h))⟩,λa ha=>?_,λc k x fa h hs=>?_,λc k h=>?_,λi=>by rw[hT];exact IM i,Option.isSome_iff_exists.mp h5,λc k h=>?_,λx v h=>?_⟩
 ·rcases VG ha with⟨d,m⟩|⟨d,m⟩
  ·exact List.all_eq_true.mp (aj h3) _ m
  ·exact List.all_eq_true.mp (ak h3) _ m
 ·have:=List.all_eq_true.mp (ak (ak (ak (q h)))) _ (yc hs);exact⟨eq_of_beq (aj this),ak this⟩
 ·have:=aj (ak (q h));exact⟨aj this,eq_of_beq (aj (ak this)),ak (ak this)⟩
 ·have:=aj (ak (ak (q h)));exact⟨eq_of_beq (aj this),ak this⟩
 ·obtain⟨u,h6,h7⟩:=Option.bind_eq_some_iff.mp (List.map_inj_left.mp h4 _ (fZ h));obtain⟨y,rfl,h8⟩:=Option.bind_eq_some_iff.mp h7;exact⟨y,h6,λγ=>IK h8⟩
noncomputable def Kf(P:Params):Frag:=MineH.l3 P++(MineH.l2 P++(MineH.l1 P++(MineH.l0 P++MineH.lb P)))
noncomputable def at3(P:Params)(l:List (Nat×Obj)):Prop:=(l.map λp=>(MineH.T3 P).get p.1)=l.map λp=>some p.2
noncomputable def QA(p:Nat×Obj):Bool:=!(Nat.beq p.1 3||Nat.beq p.1 12)
noncomputable def Sw(p:Nat×Obj):Bool:=!(Nat.beq p.1 3||Nat.beq p.1 2)
noncomputable def MQ(p:Nat×Obj):Bool:=Nat.blt p.1 935&&match p.2 with
 |⟨_,_,.freed,_⟩=>false
 |_=>true
theorem Rm(P:Params):at3 P (MineH.l3 P):=by unfold at3;kernel_rfl
theorem Rn(P:Params):at3 P ((MineH.l2 P).filter QA):=by unfold at3;kernel_rfl
theorem Ro(P:Params):at3 P ((MineH.l1 P).filter QA):=by unfold at3;kernel_rfl
theorem Rp(P:Params):at3 P ((MineH.l0 P).filter QA):=by unfold at3;kernel_rfl
theorem Rq(P:Params):at3 P ((MineH.lb P).filter Sw):=by unfold at3;kernel_rfl
theorem IP(P:Params):(Kf P).all MQ=true:=by kernel_rfl
theorem Rr(P:Params):((MineH.l3 P).lookup 3).isSome=true/\((MineH.l3 P).lookup 12).isSome=true/\((MineH.l1 P).lookup 2).isSome=true:=⟨by kernel_rfl,by kernel_rfl,by kernel_rfl⟩
theorem kY{α:Type}{a:Nat}{o:α}{A B:List (Nat×α)}(h:(A++B).lookup a=some o):A.lookup a=some o\/(A.lookup a=none/\B.lookup a=some o):=by
 rw[List.lookup_append]at h;cases e:A.lookup a with
 |some x=>rw[e]at h;exact .inl h
 |none=>rw[e]at h;exact .inr ⟨rfl,h⟩
theorem nR{P:Params}{l:List (Nat×Obj)}(h:at3 P l){a:Nat}{o:Obj}(hm:(a,o)∈l):(MineH.T3 P).get a=some o:=List.map_inj_left.mp h (a,o) hm
theorem P5(P:Params){a:Nat}{o:Obj}(h:(Kf P).lookup a=some o):(MineH.T3 P).get a=some o:=by
 obtain⟨o1,o2,o3⟩:=Rr P;rcases kY h with h|⟨n3,h⟩
 ·exact nR (Rm P) (SV h)
 have a3:a≠3:=λe=>by rw[e]at n3;rw[n3]at o1;cases o1
 have a12:a≠12:=λe=>by rw[e]at n3;rw[n3]at o2;cases o2
 have f2:∀{l:List (Nat×Obj)},(a,o)∈l->(a,o)∈l.filter QA:=λhm=>List.mem_filter.mpr ⟨hm,by
  show(!(Nat.beq a 3||Nat.beq a 12))=true
  cases q:Nat.beq a 3 with
  |true=>exact absurd (Nat.eq_of_beq_eq_true q) a3
  |false=>
   cases q2:Nat.beq a 12 with
   |true=>exact absurd (Nat.eq_of_beq_eq_true q2) a12
   |false=>rfl⟩
 rcases kY h with h|⟨n2,h⟩
 ·exact nR (Rn P) (f2 (SV h))
 rcases kY h with h|⟨n1,h⟩
 ·exact nR (Ro P) (f2 (SV h))
 have a2:a≠2:=λe=>by rw[e]at n1;rw[n1]at o3;cases o3
 rcases kY h with h|⟨n0,h⟩
 ·exact nR (Rp P) (f2 (SV h))
 refine nR (Rq P) (List.mem_filter.mpr ⟨SV h,?_⟩);show(!(Nat.beq a 3||Nat.beq a 2))=true
 cases q:Nat.beq a 3 with
 |true=>exact absurd (Nat.eq_of_beq_eq_true q) a3
 |false=>
  cases q2:Nat.beq a 2 with
  |true=>exact absurd (Nat.eq_of_beq_eq_true q2) a2
  |false=>rfl
theorem VP(P:Params):(Kf P).In (MineH.Hf P):=by
 intro a o h;have hl:=List.all_eq_true.mp (IP P) _ (SV h);unfold MQ at hl;rw[Bool.and_eq_true]at hl;have hlt:a < 935:=by have:=hl.1;unfold Nat.blt at this;exact Nat.le_of_ble_eq_true this
 refine(abs_get hlt (P5 P h)).trans ?_;obtain⟨c,d,dt,sl⟩:=o;cases dt<;>first|rfl|(cases hl.2)
noncomputable def Kt(P:Params)(T:Frag):Frag:=Kf P++T
theorem P6{P:Params}{T:Frag}{h h':Heap}(hk:h=MineH.Hf P)(keep:∀b o,h.get? b=some o->h'.get? b=some o)(hT:T.In h'):(Kt P T).In h':=by
 intro a o q;rcases kY q with q|⟨_,q⟩
 ·exact keep a o (hk▸VP P a o q)
 ·exact hT a o q
theorem Rt(P:Params)(T:Frag):(bis.all λx=>nsIn (Kt P T) mainGlobals x==some none)=true:=by kernel_rfl
theorem Ru(P:Params)(T:Frag):I9.all (RN (Kt P T))=true:=by kernel_rfl
theorem OD(P:Params)(T:Frag):((jr.all λp=>keepIn (Kt P T) (.ref p.1))&&(I9.all λp=>keepIn (Kt P T) (.ref p.1)))=true:=by kernel_rfl
theorem Rv(P:Params)(T:Frag):(zU.map λp=>(nsIn (Kt P T) mainGlobals (nm p.1)).bind λu=>u.bind (vOf (Kt P T) 5))=zU.map λp=>some p.2:=by kernel_rfl
theorem P7(P:Params)(T:Frag):((Kt P T).lookup 1).isSome=true:=by kernel_rfl
theorem IQ{X:Cx}{P:Params}{T:Frag}(hK:X.K=Kt P T)(h1:X.C.tmpl=tmpl)(h2:X.C.ct=I9)(h3:X.C.ft=jr)(h4:X.C.gt=zU):fY X:=
 OC h1 (by rw[hK];exact Rt P T) (by rw[h2,hK];exact Ru P T) (by rw[h3,h2,hK];exact OD P T) (by rw[h4,hK];exact Rv P T) (by rw[hK];exact P7 P T)
theorem IT{X:Cx}{P:Params}{T:Frag}(hK:X.K=Kt P T)(hC:X.CF=44):Exc X:=by refine⟨?_,?_,?_,?_,?_,?_,?_,?_,?_⟩<;>(try rw[hC])<;>rw[hK]<;>kernel_rfl
theorem OE(P:Params)(T:Frag):(jr.map λp=>(Kt P T).lookup p.1)=jr.map λp=>VE (Kt P T) p.1:=by kernel_rfl
theorem OF(P:Params)(T:Frag):(jr.map λp=>bif Nat.beq p.1 769 then Cn p.2.ps else Vq (MO (iX (Kt P T) p.1)) p.2.ps.length)=jr.map λp=>Cn p.2.ps:=by kernel_rfl
theorem Rw:(jr.all λp=>Nat.beq p.1 769||Tq p.2.df)=true:=by kernel_rfl
theorem qj{α:Type}{p:α->Bool}{l:List α}(k:Nat)(h1:(l.take k).all p=true)(h2:(l.drop k).all p=true):l.all p=true:=by rw[<- List.take_append_drop k l,List.all_append,h1,h2];rfl
theorem P8(P:Params)(T:Frag):((jr.take 20).all λp=>EE (Kt P T) aA 60 (iX (Kt P T) p.1) p.2)=true:=by kernel_rfl
theorem P9(P:Params)(T:Frag):(((jr.drop 20).take 20).all λp=>EE (Kt P T) aA 60 (iX (Kt P T) p.1) p.2)=true:=by kernel_rfl
theorem Qa(P:Params)(T:Frag):(((jr.drop 20).drop 20).all λp=>EE (Kt P T) aA 60 (iX (Kt P T) p.1) p.2)=true:=by kernel_rfl
theorem OG(P:Params)(T:Frag):(jr.all λp=>EE (Kt P T) aA 60 (iX (Kt P T) p.1) p.2)=true:=qj 20 (P8 P T) (qj 20 (P9 P T) (Qa P T))
theorem Qc(P:Params)(T:Frag):((jr.take 20).all λp=>EE (Kt P T) qx 60 (iX (Kt P T) p.1) p.2)=true:=by kernel_rfl
theorem Qd(P:Params)(T:Frag):(((jr.drop 20).take 20).all λp=>EE (Kt P T) qx 60 (iX (Kt P T) p.1) p.2)=true:=by kernel_rfl
theorem Qe(P:Params)(T:Frag):(((jr.drop 20).drop 20).all λp=>EE (Kt P T) qx 60 (iX (Kt P T) p.1) p.2)=true:=by kernel_rfl
theorem OH(P:Params)(T:Frag):(jr.all λp=>EE (Kt P T) qx 60 (iX (Kt P T) p.1) p.2)=true:=qj 20 (Qc P T) (qj 20 (Qd P T) (Qe P T))
noncomputable def nT:Fn:=(aT jr 769).getD ⟨[],[],[]⟩
noncomputable def L4:List Value:=[.int 32 1375,.int 7 1376,.int 15 1377,.int 38 1378,.int 1000000 1379,.int 19 1380,.int 72 1381,.int 40 1382]
theorem OI:nT.ps=1936026726::nT.ps.tail:=by kernel_rfl
theorem OJ:nT.df.isEmpty=false:=by kernel_rfl
theorem L5:nT.ps.tail.length=nT.df.length:=by kernel_rfl
theorem L6(P:Params)(T:Frag):(Kt P T).lookup 762=some ⟨.type "tuple",none,.seq L4.toArray 0,#[]⟩:=by kernel_rfl
theorem L7(P:Params)(T:Frag):(iX (Kt P T) 769).defaults=.ref 762:=by kernel_rfl
theorem IU(P:Params)(T:Frag):U7 (vOf (Kt P T) 1) L4=some nT.df:=by kernel_rfl
theorem IV(P:Params)(T:Frag)(u:Value):∃k,bindArgs (MO (iX (Kt P T) 769)) ⟨[u],[]⟩=seqItems? (MO (iX (Kt P T) 769)).defaults>>=k/\k (some L4.toArray)=pure ((nT.ps.map nm).zip (u::L4)):=⟨_,rfl,by kernel_rfl⟩
theorem IW{X:Cx}{P:Params}{T:Frag}(hK:X.K=Kt P T)(hF:X.C.ft=jr)(h:(jr.all λp=>EE X.K X.C 60 (iX X.K p.1) p.2)=true)(a:Nat)(fd:Fn)(q:aT X.C.ft a=some fd):vX X 60 a fd:=by
 rw[hF]at q;have m:=fZ q;have ho:=List.map_inj_left.mp (OE P T) _ m;rw[<- hK]at ho;have hb:=List.map_inj_left.mp (OF P T) _ m;rw[<- hK]at hb;have hd:=List.all_eq_true.mp Rw _ m;have hf:=List.all_eq_true.mp h _ m;clear h hF m;cases e:Nat.beq a 769 with
 |false=>
  refine IG (CL (?_:Tq fd.df=true)) ho ?_ hf
  ·rw[e]at hd;exact hd
  ·rw[e]at hb;exact hb
 |true=>
  obtain rfl:=Nat.eq_of_beq_eq_true e;obtain rfl:nT=fd:=by unfold nT;rw[q];rfl
  refine LX OI (λe=>nomatch (congrArg List.isEmpty e).symm.trans OJ) L5 ho hf (hK▸L6 P T) (hK▸L7 P T) (λγ=>Cp (r:=vOf X.K 1) (λ_ _ q=>IK q) (hK▸IU P T)) ?_;rw[hK];exact IV P T
noncomputable def xd:Nat:=450624087419648520054131
noncomputable def lO:Nat:=439720572019
noncomputable def Cq:Nat:=32503133031591027
noncomputable def xe:Nat:=29681726149062500
noncomputable abbrev Qf:Scope:={kind:=.function,names:=[(".0",.local),("name",.local)],isGenerator:=false,isCoroutine:=false}
noncomputable abbrev pF:Stmt:=.Assign [.Name (nm lO) ⟨856,4,856,9⟩] (.Call (.Name "dict" ⟨856,12,856,16⟩) [.ListComp (.Tuple [.Name "name" ⟨856,19,856,23⟩,.List [] ⟨856,25,856,27⟩] 0 ⟨856,18,856,28⟩) [⟨.Name "name" ⟨856,33,856,37⟩,.Name (nm xd) ⟨856,41,856,51⟩,[],0⟩] Qf ⟨856,17,856,52⟩] [] ⟨856,12,856,53⟩) ⟨856,4,856,53⟩
noncomputable abbrev pE:PySem.Expr:=.Call (.Name "build_symbols" ⟨891,18,891,31⟩) [.Name "raw" ⟨891,32,891,35⟩,.Name "_law_is_intrinsic" ⟨891,37,891,54⟩,.Call (.Name "Limits" ⟨891,56,891,62⟩) [] [] ⟨891,56,891,64⟩] [] ⟨891,18,891,65⟩
noncomputable abbrev pT:Stmt:=.Try [.Assign [.Name (nm Cq) ⟨891,8,891,15⟩] pE ⟨891,8,891,65⟩] [.ExceptHandler (some (.Name "CheckFault" ⟨892,11,892,21⟩)) none [.Return (some (.UnaryOp .Not (.Name (nm xe) ⟨893,19,893,26⟩) ⟨893,15,893,26⟩)) ⟨893,8,893,26⟩] ⟨892,4,893,26⟩] [] [] ⟨890,4,893,26⟩
noncomputable def MR(sc:Scope):Bool:=eu sc (nm lO)&&(b7 sc "dict"&&(b7 sc (nm xd)&&(TF Qf "name"&&(b7 sc "CheckFault"&&(eu sc (nm xe)&&eu sc (nm Cq))))))
section
variable{X:Cx}{f:Fm}{m:Str->Option Value}{γ:Ga}{g:G}{s:Shared}{n:Nat}{l:Loc}{k:Nat}
theorem Bb{x:Nat}{p:PySem.Expr}{np pos:Pos}{t:R V}(O:bB X f n)(hy:eu f.scope (nm x)=true)(h1:eS p=true)
  (H:dh X f m (λγ' b a=>X.RV γ' b a) t (eval p f.env) γ s) (Z:aO X f m γ g s.heap) (hl:X.Ls f γ m l):
  g9 X f (t.bind λv g=>.ok (.next (bY l x v)) g) (exec (.Assign [.Name (nm x) np] p pos) f.env) γ s:=by
 intro Φ Ψ Q E hA hE hQ;refine wpAny_Assign_Name ?_ (i9 h1);refine H _ Ψ _ E (R.All.bind.mp hA) (hE.zN m) λv g1 γ1 u h1 tk1 hA1 e1 Z1 r1=>?_;exact aO.set (s:={s with heap:=h1,toks:=tk1}) Z1 (hl.ext e1) O rfl hy r1 λh' m' Z' hl'=>hQ _ g1 γ1 .next h' _ m' hA1 e1 Z' hl'
theorem IX(KO:fY X)(EX:Exc X){N:Nat}(HS:SS X (N+5) (fs X.C (N+5)).s)(HE:SE X (N+3) (fs X.C (N+3)).e)(O:bB X f (N+5))(hb:f.base=f.h₀)
  (hfa:∀l g,(fs X.C (N+4)).e l g .facts=Gy g) (hgt:aT X.C.gt xd=some NG) (hs:MR f.scope=true) {b1 b2 b3:List MS} {ps1 ps2 ps3:List Stmt} {x:Nat} {e:ME}
  (c1:BY (gv X.K X.C f.scope k) b1 ps1=true) (c2:BY (gv X.K X.C f.scope k) b2 ps2=true) (c3:BY (gv X.K X.C f.scope k) b3 ps3=true) (ce:iN X.K X.C f.scope k e pE=true) (Z:aO X f m γ g s.heap) (hl:X.Ls f γ m l):
  vY X f (blk (fs X.C (N+5)) l g (b1++.asg lO .facts::(b2++.tr [.asg Cq e] x [.ret (some (.not (.loc xe)))]::(b3++[])))) (execs (ps1++pF::(ps2++pT::(ps3++[]))) f.env) s:=by
 have q:=ak (ak hs);have q2:=ak (ak q);refine qU HS O c1 Z hl λs g γ m l Z hl=>?_;refine uq (γ:=γ) (c:=.asg lO .facts) ?_ λg1 γ1 h1 tk1 m1 l1 Z1 hl1=>qU (s:={s with heap:=h1,toks:=tk1}) HS O c2 Z1 hl1 λs g γ m l Z hl=>?_
 ·refine(?_:g9 X f (((fs X.C (N+4)).e l g .facts).bind λv g=>.ok (.next (bY l lO v)) g) _ γ s);rw[hfa];exact Bb O (aj hs) rfl (Dr KO O rfl (aj (ak hs)) rfl (aj (ak q)) rfl (aj q) hgt Z hl) Z hl
 ·exact Gm (f4:=fs X.C (N+1)) (n:=N+3) EX HE (O.low (Nat.add_le_add_left (by decide) N)) hb rfl (aj q2) rfl (aj (ak q2)) rfl (ak (ak q2)) rfl ce Z hl λg1 γ1 h1 tk1 m1 l1 Z1 hl1=>qU (s:={s with heap:=h1,toks:=tk1}) HS O c3 Z1 hl1 λ_ _ _ _ _ _ _=>Gi
end
noncomputable def Qg:ME:=match TJ.drop 13 with
 | .tr [.asg _ e] _ _::_=>e
 |_=>.int 0
theorem L8:TJ=TJ.take 2++.asg lO .facts::((TJ.drop 3).take 10++.tr [.asg Cq Qg] aA.exc [.ret (some (.not (.loc xe)))]::(TJ.drop 14++[])):=by kernel_rfl
noncomputable def cx(w:World)(T:Frag)(mean:ExcName->Option Value)(mg mb:Str->Option Value):Cx:={prog:=MineH.pw,w:=w,K:=Kt w.params T,C:=aA,CF:=44,p:=MineH.qv,loose:=looseW MineH.qv MineH.lw,mean,mg,mb,sl:=13}
section
variable{w:World}{T:Frag}{mean:ExcName->Option Value}{mg mb:Str->Option Value}
theorem Qh:fY (cx w T mean mg mb):=IQ rfl rfl rfl rfl rfl
theorem Rx:fY (cx w T mean mg mb).c0:=IQ rfl rfl rfl rfl rfl
theorem Qi:Exc (cx w T mean mg mb):=IT rfl rfl
theorem Ry:Exc (cx w T mean mg mb).c0:=IT rfl rfl
theorem MT:VC (cx w T mean mg mb).c0 60:=⟨IW rfl rfl (OH _ _),λ_ _ _ _ _ _ _ _ _ _ _ _ _ h=>aL h⟩
theorem Ma:aT jr 861=some w5:=by kernel_rfl
theorem Qj:VC (cx w T mean mg mb) 60:=⟨IW rfl rfl (OG _ _),
 Ex rfl rfl (λn=>(mj Rx Ry MT n).s) (MT.fn 861 w5 Ma)⟩
theorem Qk(n:Nat):ND (cx w T mean mg mb) n (fs aA n):=mj Qh Qi Qj n
end
theorem Cr{prog:Program}{w:World}{K:Frag}{γ:Ga}:∀{vs:List Value}{L:List Int},IntsAre vs L->cH prog w K γ vs (bk L)
 |_,_,.nil=>.nil
 |_,_,.cons n t r=>.cons (.int n t) (Cr r)
noncomputable def Ql:By->Bool
 | .free=>true
 |_=>false
theorem Mb(n:Nat):(g0 n).hp.all (λp=>Ql p.2)=true:=by kernel_rfl
theorem Rz{prog:Program}{w:World}{K:Frag}{n:Nat}(h:n<=900000):gq prog w K ⟨[],[],[],[]⟩ (g0 n)where
 nd:=.nil
 md:=.nil
 nU:=λ_ h=>(nomatch h)
 cell:=λi c q=>by have:=List.all_eq_true.mp (Mb n) _ (fZ q);cases c<;>first|rfl|(cases this;done)
 ju:=λ_ h=>(nomatch h)
 lf:=h
 sL:=rfl
 tO:=λ_ _ h=>(nomatch h)
theorem IY:IE MineH.dL.scope [dw]=true:=by kernel_rfl
theorem IZ:MineH.dL.scope.names.all (λx=>x.2 != .cell)=true:=by kernel_rfl
theorem OL:eu MineH.dL.scope (nm dw)=true:=by kernel_rfl
theorem Mc:MineH.dL.params.defaults.isEmpty=true:=by kernel_rfl
theorem Me(pm cd doc kV u:Value):bindArgs {docDef MineH.dL.name MineH.dL.params MineH.dL.body MineH.dL.scope pm cd doc with defaults:=.none,kwdefaults:=kV} ⟨[u],[]⟩=pure [(nm dw,u)]:=by kernel_rfl
theorem Qm:MineH.dL.body=MineH.dL.body.take 2++pF::((MineH.dL.body.drop 3).take 10++pT::(MineH.dL.body.drop 14++[])):=by kernel_rfl
theorem Qn:MR MineH.dL.scope=true:=by kernel_rfl
theorem Qo(P:Params)(T:Frag):BY (gv (Kt P T) aA MineH.dL.scope 60) (TJ.take 2) (MineH.dL.body.take 2)=true:=by kernel_rfl
theorem Qp(P:Params)(T:Frag):BY (gv (Kt P T) aA MineH.dL.scope 60) ((TJ.drop 3).take 10) ((MineH.dL.body.drop 3).take 10)=true:=by kernel_rfl
theorem Qq(P:Params)(T:Frag):BY (gv (Kt P T) aA MineH.dL.scope 60) (TJ.drop 14) (MineH.dL.body.drop 14)=true:=by kernel_rfl
theorem OM(P:Params)(T:Frag):iN (Kt P T) aA MineH.dL.scope 60 Qg pE=true:=by kernel_rfl
theorem ON:(recsOf MineH.qv).find? (λe=>e.name==MineH.dL.name)=some MineH.dL:=by kernel_rfl
theorem Ez{R:WRecords}{cl:Str->Option Addr}{P:Params}{ord:List DictEntry->List DictEntry}{xs:List PyData}{s s₁:Shared}{d:Addr}(h:layAllW R cl P ord [ofPy (.list xs)] s=some ([.ref d],s₁)):
  (∃its,s₁.heap.get? d=some (listOf its 0))/\s.heap.get? d=none:=by
 obtain⟨a,q,ha,hq,e⟩:=layAllW_cons h;obtain⟨q',hq',rfl⟩:=layW_list ha;have keeps:=layAllW_keeps _ _ _ hq';have hq:some ([],_)=some q:=hq;cases hq;obtain⟨e1,rfl⟩:=Prod.mk.inj e;have e1:d=q'.2.heap.objs.size:=by have:=(List.cons.inj e1).1;cases this;rfl
 subst e1;refine⟨⟨q'.1.toArray,Heap.get?_push_size _ rfl⟩,?_⟩;cases z:s.heap.get? q'.2.heap.objs.size with
 |none=>rfl
 |some o=>exact absurd (Heap.lt_size (keeps _ _ z)) (Nat.lt_irrefl _)
set_option tactic.hygienic true in
theorem I0{w:World}{s₀ s₁:Shared}{mg mb:Str->Option Value}{mean:ExcName->Option Value}{fa d:Addr}{o:Obj}{pm cd doc dV kV:Value}{L:List Int}{vs:List Value}{n₀:Nat}{R:Result->Shared->Prop}
  (T:Top MineH.qv (looseW MineH.qv MineH.lw) mean mg mb s₁.heap) (Y:s₀.heap=MineH.Hf w.params) (keeps:∀b o,s₀.heap.get? b=some o->s₁.heap.get? b=some o)
  (ho:s₁.heap.get? fa=some o) (hd:o.data=.func {docDef MineH.dL.name MineH.dL.params MineH.dL.body MineH.dL.scope pm cd doc with defaults:=dV,kwdefaults:=kV}) (hcd:s₁.heap.CodeRec cd MineH.dL.name)
  (hdV:dV=.none) (hl:s₁.heap.get? d=some (listOf vs.toArray n₀)) (hn:s₀.heap.get? d=none) (hI:IntsAre vs L) (hlen:L.length<=63)
  (hR:∀h' tk m',Fr s₁.heap s₁.heap.objs.size h' m'->R (.ok (.ret (.bool true))) {s₁ with heap:=h',toks:=tk}):
  codeAny (model MineH.pw w) callerA (.call (.ref fa) ⟨[.ref d],[]⟩) R s₁:=by
 have q:=IY;have sc3:MineH.dL.scope.kind=.function:=eq_of_beq (aj (ak (ak q)));have plain:∀x∈MineH.dL.scope.names,x.2≠.cell:=λx hx=>bne_iff_ne.mp (List.all_eq_true.mp IZ x hx);refine call_fullW (by decide) ho hd T.nolimit hcd (BindsTo.of_eq (binds:=[(nm dw,.ref d)]) (hdV▸Me pm cd doc kV (.ref d))) (λx hx=>?_) (λh₁ F=>?_) (Co (aj q)) (Co (aj (ak q))) sc3 plain
 ·rw[List.mem_singleton.mp hx];exact(eG OL).1
 ·have hK:(Kt w.params [(d,listOf vs.toArray n₀)]).In s₁.heap:=P6 Y keeps (λa o' q=>by
   rw[List.lookup_cons]at q;split at q
   ·rename_i e;cases q;rw[beq_iff_eq.mp e];exact hl
   ·cases q)
  have hKd:(Kt w.params [(d,listOf vs.toArray n₀)]).lookup d=some (listOf vs.toArray n₀):=by
   show(Kf w.params++[(d,listOf vs.toArray n₀)]).lookup d=_;rw[List.lookup_append];cases e:(Kf w.params).lookup d with
   |some x=>have:=VP w.params d x e;rw[<- Y,hn]at this;cases this
   |none=>show List.lookup d [(d,listOf vs.toArray n₀)]=_;rw[List.lookup_cons,beq_self_eq_true]
  let X:Cx:=cx w [(d,listOf vs.toArray n₀)] mean mg mb
  let f:Fm:={A:=callerA.deeper (envOf MineH.dL.name MineH.dL.scope s₁.heap.objs.size fa cd),A₀:=callerA,base:=s₁.heap,outer:=[],h₀:=s₁.heap,L:=s₁.heap.objs.size,name:=MineH.dL.name,scope:=MineH.dL.scope,fa:=fa,cd:=cd,cl:=[]}
  have O:bB X f (155+5):=⟨below_caller s₁.heap,Around.frames_deeper rfl,hK,T,rfl,sc3,λ_ _=>rfl,λy hy=>absurd rfl (plain _ (mem_of_lookup hy)),λ_=>rfl,(by show callerA.depth+1+3 * (155+5+13) < recursionLimit;decide+kernel),(by show callerA.units+3+40 * (155+5+13)+100 < cLine;decide+kernel)⟩
  have Z:aO X f (λx=>[(nm dw,Value.ref d)].reverse.lookup x) ⟨[],[],[],[]⟩ (g0 (0+72)) h₁:=⟨F,News.nil,Rz (by decide)⟩
  have hls:X.Ls f ⟨[],[],[],[]⟩ (λx=>[(nm dw,Value.ref d)].reverse.lookup x) [(dw,.lst (bk L))]:=λx v q=>by
   have q:(match Nat.beq dw x with|true=>some (V.lst (bk L))|false=>none)=some v:=q
   cases e:Nat.beq dw x with
   |false=>rw[e]at q;cases q
   |true=>
    rw[e]at q;cases q;rw[<- Nat.eq_of_beq_eq_true e];refine⟨.ref d,⟨λ_=>?_,λc hc=>(by cases hc)⟩,.lst (.inr hKd) (Cr hI) ?_⟩
    ·show List.lookup (nm dw) [(nm dw,Value.ref d)]=_;rw[List.lookup_cons,beq_self_eq_true]
    ·show(L.map V.int).length<=_;rw[List.length_map];omega
  have key:vY X f (blk (fs aA (155+5)) [(dw,.lst (bk L))] (g0 (0+72)) _) (execs _ f.env) {s₁ with heap:=h₁,toks:=s₁.toks+1}:=IX (X:=X) (f:=f) (N:=155) (k:=60) (x:=aA.exc) Qh Qi (Qk _).s (Qk _).e O rfl (λ_ _=>rfl) (by kernel_rfl) Qn (Qo w.params _) (Qp w.params _) (Qq w.params _) (OM w.params _) (s:={s₁ with heap:=h₁,toks:=s₁.toks+1}) Z hls
  rw[<- L8,<- Qm]at key;have hm:=Iz L 0 0;rw[show(0+160:Nat)=155+5 from rfl]at hm;refine key _ _ ?_ ?_ ?_
  ·exact hm.out
  ·exact PassesOwn.leaving
  ·exactλh' tk m' F'=>hR h' tk m' F'
set_option tactic.hygienic true in
theorem walk:WalkX MineH.qv MineH.lw (λ_ _=>True) MineH.Yf MineH.Ya MineH.rW.toRowW MineH.dL [] λf vs=>PySem.call f vs:=by
 intro w s₀ s₁ mg mb G Y fa o pm cd doc dV kV ho hd hcd hD hmg hg args vals as L hpre hlay hrd hwl hlo;have T:=G.T;have hdV:=Dflts.none hD (List.isEmpty_iff.mp Mc);obtain⟨cc,P,_,B0⟩:=based_of_top T ON hmg ho hd;have Lk:=L.keeps;have Lw:=L.laid;have Y0:s₀.heap=MineH.Hf w.params:=congrArg Prod.fst (show(s₀.heap,s₀.toks)=(MineH.Hf w.params,1683)from Y)
 wrow_args hpre hlay hrd hwl hlo
 rename_i L0 _ _ _ _ _ _ _ d vs _ hL _ _ _ hI _ hlen _;obtain⟨ord,_,hlaid⟩:=Lw;obtain⟨⟨its,hget⟩,hnone⟩:=Ez hlaid;obtain⟨o',ho',hc',n₀,hd'⟩:=hL;rw[hget]at ho';cases ho';have hits:its=vs.toArray:=by cases hd';rfl
 subst hits;refine enter_call ?_;refine I0 T Y0 Lk ho hd hcd hdV hget hnone hI (by omega) λh' tk m' F=>?_
 wrow_closeG
end Mine
theorem PySem.Challenge.cw_no0292_01_holds : PySem.Challenge.rw_no0292_01.Holds :=
 MineH.head Mine.walk
