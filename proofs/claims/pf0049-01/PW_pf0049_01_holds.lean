import PyProof.Rows.All
import Wide.All
import OpenK.AllK
import Wide.FinOn
import Lean
import PySem.Challenge.RW_pf0049_01
set_option Elab.async false
set_option compiler.extract_closed false
set_option genSizeOf false
set_option maxRecDepth 100000
set_option linter.all false
local macro_rules | `(tactic| lia) => `(tactic| lia -abstractProof)
section
open PySem PySem.W PyProof.Rows
namespace Mine.Internal
noncomputable def defParts: Stmt → List (Arguments × List Stmt × Scope)
 | .FunctionDef _ a b _ _ _ s _ _ _ => [(a, b, s)]
 | _ => []
noncomputable def defsIn: Stmt → List (Arguments × List Stmt × Scope)
 | .ClassDef _ _ _ b _ _ _ _ _ _ _ => b.flatMap defParts
 | s => defParts s
noncomputable def defsOf: List (Arguments × List Stmt × Scope) := PySem.Challenge.pw_pf0049_01.main.body.flatMap defsIn
noncomputable def nthD: List (Arguments × List Stmt × Scope) → Nat → Arguments × List Stmt × Scope
 | [], _ => (⟨[], [], none, [], [], none, []⟩, [], ⟨.function, [], false, false, []⟩)
 | x :: _, 0 => x
 | _ :: r, n + 1 => nthD r n
end Mine.Internal
end
section
open PySem PySem.W PyProof.Rows
set_option maxRecDepth 1000000
namespace Mine.Internal
noncomputable def p0: { x // nthD defsOf 0 = x } := ⟨_, by conv => lhs; whnf⟩
noncomputable def p1: { x // nthD defsOf 1 = x } := ⟨_, by conv => lhs; whnf⟩
noncomputable def p2: { x // nthD defsOf 2 = x } := ⟨_, by conv => lhs; whnf⟩
noncomputable def p3: { x // nthD defsOf 3 = x } := ⟨_, by conv => lhs; whnf⟩
noncomputable def p4: { x // nthD defsOf 4 = x } := ⟨_, by conv => lhs; whnf⟩
noncomputable def p5: { x // nthD defsOf 5 = x } := ⟨_, by conv => lhs; whnf⟩
noncomputable def p6: { x // nthD defsOf 6 = x } := ⟨_, by conv => lhs; whnf⟩
noncomputable def p7: { x // nthD defsOf 7 = x } := ⟨_, by conv => lhs; whnf⟩
noncomputable def p8: { x // nthD defsOf 8 = x } := ⟨_, by conv => lhs; whnf⟩
noncomputable def p9: { x // nthD defsOf 9 = x } := ⟨_, by conv => lhs; whnf⟩
noncomputable def p10: { x // nthD defsOf 10 = x } := ⟨_, by conv => lhs; whnf⟩
noncomputable def p11: { x // nthD defsOf 11 = x } := ⟨_, by conv => lhs; whnf⟩
noncomputable def p12: { x // nthD defsOf 12 = x } := ⟨_, by conv => lhs; whnf⟩
noncomputable def p13: { x // nthD defsOf 13 = x } := ⟨_, by conv => lhs; whnf⟩
noncomputable def p14: { x // nthD defsOf 14 = x } := ⟨_, by conv => lhs; whnf⟩
noncomputable def p15: { x // nthD defsOf 15 = x } := ⟨_, by conv => lhs; whnf⟩
noncomputable def p16: { x // nthD defsOf 16 = x } := ⟨_, by conv => lhs; whnf⟩
noncomputable def p17: { x // nthD defsOf 17 = x } := ⟨_, by conv => lhs; whnf⟩
noncomputable def p18: { x // nthD defsOf 18 = x } := ⟨_, by conv => lhs; whnf⟩
noncomputable def p19: { x // nthD defsOf 19 = x } := ⟨_, by conv => lhs; whnf⟩
noncomputable def p20: { x // nthD defsOf 20 = x } := ⟨_, by conv => lhs; whnf⟩
noncomputable def p21: { x // nthD defsOf 21 = x } := ⟨_, by conv => lhs; whnf⟩
noncomputable def p22: { x // nthD defsOf 22 = x } := ⟨_, by conv => lhs; whnf⟩
noncomputable def p23: { x // nthD defsOf 23 = x } := ⟨_, by conv => lhs; whnf⟩
noncomputable def p24: { x // nthD defsOf 24 = x } := ⟨_, by conv => lhs; whnf⟩
noncomputable def p25: { x // nthD defsOf 25 = x } := ⟨_, by conv => lhs; whnf⟩
noncomputable def p26: { x // nthD defsOf 26 = x } := ⟨_, by conv => lhs; whnf⟩
noncomputable def p27: { x // nthD defsOf 27 = x } := ⟨_, by conv => lhs; whnf⟩
noncomputable def p28: { x // nthD defsOf 28 = x } := ⟨_, by conv => lhs; whnf⟩
noncomputable def p29: { x // nthD defsOf 29 = x } := ⟨_, by conv => lhs; whnf⟩
noncomputable def p30: { x // nthD defsOf 30 = x } := ⟨_, by conv => lhs; whnf⟩
noncomputable def p31: { x // nthD defsOf 31 = x } := ⟨_, by conv => lhs; whnf⟩
noncomputable def p32: { x // nthD defsOf 32 = x } := ⟨_, by conv => lhs; whnf⟩
noncomputable def p33: { x // nthD defsOf 33 = x } := ⟨_, by conv => lhs; whnf⟩
noncomputable def p34: { x // nthD defsOf 34 = x } := ⟨_, by conv => lhs; whnf⟩
noncomputable def p35: { x // nthD defsOf 35 = x } := ⟨_, by conv => lhs; whnf⟩
noncomputable def p36: { x // nthD defsOf 36 = x } := ⟨_, by conv => lhs; whnf⟩
noncomputable def p37: { x // nthD defsOf 37 = x } := ⟨_, by conv => lhs; whnf⟩
noncomputable def p38: { x // nthD defsOf 38 = x } := ⟨_, by conv => lhs; whnf⟩
noncomputable def p39: { x // nthD defsOf 39 = x } := ⟨_, by conv => lhs; whnf⟩
noncomputable def p40: { x // nthD defsOf 40 = x } := ⟨_, by conv => lhs; whnf⟩
noncomputable def p41: { x // nthD defsOf 41 = x } := ⟨_, by conv => lhs; whnf⟩
noncomputable def p42: { x // nthD defsOf 42 = x } := ⟨_, by conv => lhs; whnf⟩
noncomputable def heap0: Params → Frag := fun P => [(2,{cls:=.none,data:=.dict #[{hash:=PyData.keyHash P ("type.__subclasses__.Exception.0"),key:=.str "type.__subclasses__.Exception.0" 216,val:=.int 31 0},{hash:=PyData.keyHash P ("type.__subclasses__.Exception.n"),key:=.str "type.__subclasses__.Exception.n" 217,val:=.int 1 0}] 2}),
(3,{cls:=.type "dict",data:=.dict #[{hash:=PyData.keyHash P ("__name__"),key:=.str "__name__" 165,val:=.str "law_pf0049_01" 541},{hash:=PyData.keyHash P ("__doc__"),key:=.str "__doc__" 166,val:=.none},{hash:=PyData.keyHash P ("__package__"),key:=.str "__package__" 167,val:=.none},{hash:=PyData.keyHash P ("__loader__"),key:=.str "__loader__" 168,val:=.builtin "__main__.__loader__#opaque"},{hash:=PyData.keyHash P ("__spec__"),key:=.str "__spec__" 169,val:=.none},{hash:=PyData.keyHash P ("__annotations__"),key:=.str "__annotations__" 170,val:=.ref 6},{hash:=PyData.keyHash P ("__builtins__"),key:=.str "__builtins__" 171,val:=.ref 4},{hash:=PyData.keyHash P ("__file__"),key:=.str "__file__" 173,val:=.str "/claim/cut.py" 172},{hash:=PyData.keyHash P ("__cached__"),key:=.str "__cached__" 174,val:=.none},{hash:=PyData.keyHash P ("CasFail"),key:=.str "CasFail" 219,val:=.ref 31},{hash:=PyData.keyHash P ("order_key"),key:=.str "order_key" 227,val:=.ref 39},{hash:=PyData.keyHash P ("powers_product"),key:=.str "powers_product" 233,val:=.ref 44},{hash:=PyData.keyHash P ("powers_divide"),key:=.str "powers_divide" 243,val:=.ref 51},{hash:=PyData.keyHash P ("powers_quotient"),key:=.str "powers_quotient" 249,val:=.ref 56},{hash:=PyData.keyHash P ("powers_join"),key:=.str "powers_join" 255,val:=.ref 61},{hash:=PyData.keyHash P ("powers_meet"),key:=.str "powers_meet" 261,val:=.ref 66},{hash:=PyData.keyHash P ("are_apart"),key:=.str "are_apart" 269,val:=.ref 73},{hash:=PyData.keyHash P ("gcd"),key:=.str "gcd" 279,val:=.ref 80},{hash:=PyData.keyHash P ("R0"),key:=.str "R0" 284,val:=.ref 81},{hash:=PyData.keyHash P ("R1"),key:=.str "R1" 287,val:=.ref 82},{hash:=PyData.keyHash P ("rat"),key:=.str "rat" 296,val:=.ref 89},{hash:=PyData.keyHash P ("radd"),key:=.str "radd" 304,val:=.ref 96},{hash:=PyData.keyHash P ("rmul"),key:=.str "rmul" 312,val:=.ref 103},{hash:=PyData.keyHash P ("rdiv"),key:=.str "rdiv" 320,val:=.ref 110},{hash:=PyData.keyHash P ("rneg"),key:=.str "rneg" 327,val:=.ref 117},{hash:=PyData.keyHash P ("rinv"),key:=.str "rinv" 334,val:=.ref 124},{hash:=PyData.keyHash P ("mvadd"),key:=.str "mvadd" 346,val:=.ref 131},{hash:=PyData.keyHash P ("add_term"),key:=.str "add_term" 356,val:=.ref 138},{hash:=PyData.keyHash P ("mvneg"),key:=.str "mvneg" 362,val:=.ref 143},{hash:=PyData.keyHash P ("mvsub"),key:=.str "mvsub" 370,val:=.ref 150},{hash:=PyData.keyHash P ("mvscale"),key:=.str "mvscale" 376,val:=.ref 155},{hash:=PyData.keyHash P ("mvshift"),key:=.str "mvshift" 382,val:=.ref 160},{hash:=PyData.keyHash P ("mvmul"),key:=.str "mvmul" 393,val:=.ref 167},{hash:=PyData.keyHash P ("mvlead"),key:=.str "mvlead" 405,val:=.ref 174},{hash:=PyData.keyHash P ("mvmonic"),key:=.str "mvmonic" 414,val:=.ref 181},{hash:=PyData.keyHash P ("first_divisor"),key:=.str "first_divisor" 426,val:=.ref 188},{hash:=PyData.keyHash P ("mvdivide"),key:=.str "mvdivide" 432,val:=.ref 193},{hash:=PyData.keyHash P ("rest_of"),key:=.str "rest_of" 441,val:=.ref 200},{hash:=PyData.keyHash P ("mvexact"),key:=.str "mvexact" 451,val:=.ref 207},{hash:=PyData.keyHash P ("s_poly"),key:=.str "s_poly" 464,val:=.ref 214},{hash:=PyData.keyHash P ("is_divided"),key:=.str "is_divided" 470,val:=.ref 219},{hash:=PyData.keyHash P ("pair_key"),key:=.str "pair_key" 482,val:=.ref 226},{hash:=PyData.keyHash P ("is_needless"),key:=.str "is_needless" 496,val:=.ref 233},{hash:=PyData.keyHash P ("least_pair"),key:=.str "least_pair" 509,val:=.ref 240},{hash:=PyData.keyHash P ("groebner"),key:=.str "groebner" 515,val:=.ref 245},{hash:=PyData.keyHash P ("is_basis"),key:=.str "is_basis" 521,val:=.ref 250},{hash:=PyData.keyHash P ("minimal_basis"),key:=.str "minimal_basis" 527,val:=.ref 255},{hash:=PyData.keyHash P ("sum_of_products"),key:=.str "sum_of_products" 540,val:=.ref 262},{hash:=PyData.keyHash P ("_law_take"),key:=.str "_law_take" 550,val:=.ref 269},{hash:=PyData.keyHash P ("_law_poly"),key:=.str "_law_poly" 558,val:=.ref 276},{hash:=PyData.keyHash P ("_law_tried"),key:=.str "_law_tried" 567,val:=.ref 283},{hash:=PyData.keyHash P ("_law_bound_right"),key:=.str "_law_bound_right" 573,val:=.ref 288},{hash:=PyData.keyHash P ("_law_one_pair_right"),key:=.str "_law_one_pair_right" 584,val:=.ref 295},{hash:=PyData.keyHash P ("law"),key:=.str "law" 590,val:=.ref 300}] 54}),
(15,{cls:=.type "tuple",data:=.seq #[.type "Exception"]}),
(22,{cls:=.type "tuple",data:=.seq #[]}),
(24,{cls:=.type "tuple",data:=.seq #[.str "self" 204,.str "kind" 205,.str "text" 206]}),
(25,{cls:=.type "tuple",data:=.seq #[]}),
(27,{cls:=.type "code",data:=.fields #[.str "__init__" 201,.str "CasFail.__init__" 202,.str "/claim/cut.py" 203,.int 4 0,.int 3 0,.int 0 0,.int 0 0,.int 3 0,.ref 22,.bool true,.int 181 0,.ref 23,.none,.ref 24,.ref 25,.ref 26,.int 207 0,.int 4 0,.str "/claim/cut.py" 208]}),
(28,{cls:=.type "function",data:=.func {name:="__init__",qualname:="CasFail.__init__",params:=p0.val.1,body:=FuncBody.stmts (p0.val.2.1),scope:=p0.val.2.2,globals:=3,closure:=[],defaults:=.none,kwdefaults:=.none,pyModule:=.str "cas.errors" 187,code:=.ref 27}}),
(29,{cls:=.type "tuple",data:=.seq #[.str "kind" 210,.str "text" 211]}),
(30,{cls:=.type "dict",data:=.dict #[{hash:=PyData.keyHash P ("__module__"),key:=.str "__module__" 196,val:=.str "cas.errors" 187},{hash:=PyData.keyHash P ("__firstlineno__"),key:=.str "__firstlineno__" 200,val:=.int 2 199},{hash:=PyData.keyHash P ("__init__"),key:=.str "__init__" 209,val:=.ref 28},{hash:=PyData.keyHash P ("__static_attributes__"),key:=.str "__static_attributes__" 212,val:=.ref 29},{hash:=PyData.keyHash P ("__weakref__"),key:=.str "__weakref__" 214,val:=.ref 32},{hash:=PyData.keyHash P ("__doc__"),key:=.str "__doc__" 215,val:=.none}] 3}),
(31,{cls:=.type "type",data:=Data.cls {name:="CasFail",bases:=[.type "Exception"],mro:=[.ref 31,.type "Exception",.type "BaseException",.type "object"],ns:=30,qualname:="CasFail"},slots:=#[some (.ref 15),none,some (.str "CasFail" 189),some (.str "CasFail" 197),some (.builtin "Exception.__new__"),some (.bool true)]}),
(32,{cls:=.type "getset_descriptor",data:=.fields #[.str "__weakref__" 213,.ref 31,.builtin "ExceptionGroup.__weakref__",.none]}),
(35,{cls:=.type "tuple",data:=.seq #[]}),
(38,{cls:=.type "code",data:=.fields #[.str "order_key" 222,.str "order_key" 223,.str "/claim/cut.py" 224,.int 9 0,.int 2 0,.int 0 0,.int 0 0,.int 3 0,.ref 35,.bool true,.int 181 0,.ref 36,.none,.none,.none,.ref 37,.int 225 0,.int 9 0,.str "/claim/cut.py" 226]}),
(39,{cls:=.type "function",data:=.func {name:="order_key",qualname:="order_key",params:=p1.val.1,body:=FuncBody.stmts (p1.val.2.1),scope:=p1.val.2.2,globals:=3,closure:=[],defaults:=.none,kwdefaults:=.none,pyModule:=.str "cas.orders" 220,code:=.ref 38}}),
(40,{cls:=.type "tuple",data:=.seq #[]}),
(43,{cls:=.type "code",data:=.fields #[.str "powers_product" 228,.str "powers_product" 229,.str "/claim/cut.py" 230,.int 17 0,.int 2 0,.int 0 0,.int 0 0,.int 3 0,.ref 40,.bool true,.int 181 0,.ref 41,.none,.none,.none,.ref 42,.int 231 0,.int 17 0,.str "/claim/cut.py" 232]}),
(44,{cls:=.type "function",data:=.func {name:="powers_product",qualname:="powers_product",params:=p2.val.1,body:=FuncBody.stmts (p2.val.2.1),scope:=p2.val.2.2,globals:=3,closure:=[],defaults:=.none,kwdefaults:=.none,pyModule:=.str "cas.orders" 220,code:=.ref 43}}),
(45,{cls:=.type "tuple",data:=.seq #[]}),
(47,{cls:=.type "tuple",data:=.seq #[.str "a" 237,.str "b" 238,.str "at" 239,.str "one" 240]}),
(48,{cls:=.type "tuple",data:=.seq #[]}),
(50,{cls:=.type "code",data:=.fields #[.str "powers_divide" 234,.str "powers_divide" 235,.str "/claim/cut.py" 236,.int 19 0,.int 2 0,.int 0 0,.int 0 0,.int 3 0,.ref 45,.bool true,.int 181 0,.ref 46,.none,.ref 47,.ref 48,.ref 49,.int 241 0,.int 19 0,.str "/claim/cut.py" 242]}),
(51,{cls:=.type "function",data:=.func {name:="powers_divide",qualname:="powers_divide",params:=p3.val.1,body:=FuncBody.stmts (p3.val.2.1),scope:=p3.val.2.2,globals:=3,closure:=[],defaults:=.none,kwdefaults:=.none,pyModule:=.str "cas.orders" 220,code:=.ref 50}}),
(52,{cls:=.type "tuple",data:=.seq #[]}),
(55,{cls:=.type "code",data:=.fields #[.str "powers_quotient" 244,.str "powers_quotient" 245,.str "/claim/cut.py" 246,.int 24 0,.int 2 0,.int 0 0,.int 0 0,.int 3 0,.ref 52,.bool true,.int 181 0,.ref 53,.none,.none,.none,.ref 54,.int 247 0,.int 24 0,.str "/claim/cut.py" 248]}),
(56,{cls:=.type "function",data:=.func {name:="powers_quotient",qualname:="powers_quotient",params:=p4.val.1,body:=FuncBody.stmts (p4.val.2.1),scope:=p4.val.2.2,globals:=3,closure:=[],defaults:=.none,kwdefaults:=.none,pyModule:=.str "cas.orders" 220,code:=.ref 55}}),
(57,{cls:=.type "tuple",data:=.seq #[]}),
(60,{cls:=.type "code",data:=.fields #[.str "powers_join" 250,.str "powers_join" 251,.str "/claim/cut.py" 252,.int 26 0,.int 2 0,.int 0 0,.int 0 0,.int 3 0,.ref 57,.bool true,.int 181 0,.ref 58,.none,.none,.none,.ref 59,.int 253 0,.int 26 0,.str "/claim/cut.py" 254]}),
(61,{cls:=.type "function",data:=.func {name:="powers_join",qualname:="powers_join",params:=p5.val.1,body:=FuncBody.stmts (p5.val.2.1),scope:=p5.val.2.2,globals:=3,closure:=[],defaults:=.none,kwdefaults:=.none,pyModule:=.str "cas.orders" 220,code:=.ref 60}}),
(62,{cls:=.type "tuple",data:=.seq #[]}),
(65,{cls:=.type "code",data:=.fields #[.str "powers_meet" 256,.str "powers_meet" 257,.str "/claim/cut.py" 258,.int 28 0,.int 2 0,.int 0 0,.int 0 0,.int 3 0,.ref 62,.bool true,.int 181 0,.ref 63,.none,.none,.none,.ref 64,.int 259 0,.int 28 0,.str "/claim/cut.py" 260]}),
(66,{cls:=.type "function",data:=.func {name:="powers_meet",qualname:="powers_meet",params:=p6.val.1,body:=FuncBody.stmts (p6.val.2.1),scope:=p6.val.2.2,globals:=3,closure:=[],defaults:=.none,kwdefaults:=.none,pyModule:=.str "cas.orders" 220,code:=.ref 65}}),
(67,{cls:=.type "tuple",data:=.seq #[]}),
(69,{cls:=.type "tuple",data:=.seq #[.str "a" 265,.str "b" 266]}),
(70,{cls:=.type "tuple",data:=.seq #[]}),
(72,{cls:=.type "code",data:=.fields #[.str "are_apart" 262,.str "are_apart" 263,.str "/claim/cut.py" 264,.int 30 0,.int 2 0,.int 0 0,.int 0 0,.int 3 0,.ref 67,.bool true,.int 181 0,.ref 68,.none,.ref 69,.ref 70,.ref 71,.int 267 0,.int 30 0,.str "/claim/cut.py" 268]}),
(73,{cls:=.type "function",data:=.func {name:="are_apart",qualname:="are_apart",params:=p7.val.1,body:=FuncBody.stmts (p7.val.2.1),scope:=p7.val.2.2,globals:=3,closure:=[],defaults:=.none,kwdefaults:=.none,pyModule:=.str "cas.orders" 220,code:=.ref 72}}),
(74,{cls:=.type "tuple",data:=.seq #[]}),
(76,{cls:=.type "tuple",data:=.seq #[.str "a" 275,.str "b" 276]}),
(77,{cls:=.type "tuple",data:=.seq #[]}),
(79,{cls:=.type "code",data:=.fields #[.str "gcd" 272,.str "gcd" 273,.str "/claim/cut.py" 274,.int 33 0,.int 2 0,.int 0 0,.int 0 0,.int 3 0,.ref 74,.bool true,.int 181 0,.ref 75,.none,.ref 76,.ref 77,.ref 78,.int 277 0,.int 33 0,.str "/claim/cut.py" 278]}),
(80,{cls:=.type "function",data:=.func {name:="gcd",qualname:="gcd",params:=p8.val.1,body:=FuncBody.stmts (p8.val.2.1),scope:=p8.val.2.2,globals:=3,closure:=[],defaults:=.none,kwdefaults:=.none,pyModule:=.str "cas.ints" 270,code:=.ref 79}}),
(81,{cls:=.type "tuple",data:=.seq #[.int 0 282,.int 1 283]}),
(82,{cls:=.type "tuple",data:=.seq #[.int 1 285,.int 1 286]}),
(83,{cls:=.type "tuple",data:=.seq #[]}),
(85,{cls:=.type "tuple",data:=.seq #[.str "top" 291,.str "bottom" 292,.str "g" 293]}),
(86,{cls:=.type "tuple",data:=.seq #[]}),
(88,{cls:=.type "code",data:=.fields #[.str "rat" 288,.str "rat" 289,.str "/claim/cut.py" 290,.int 41 0,.int 2 0,.int 0 0,.int 0 0,.int 3 0,.ref 83,.bool true,.int 181 0,.ref 84,.none,.ref 85,.ref 86,.ref 87,.int 294 0,.int 41 0,.str "/claim/cut.py" 295]}),
(89,{cls:=.type "function",data:=.func {name:="rat",qualname:="rat",params:=p9.val.1,body:=FuncBody.stmts (p9.val.2.1),scope:=p9.val.2.2,globals:=3,closure:=[],defaults:=.none,kwdefaults:=.none,pyModule:=.str "cas.rats" 280,code:=.ref 88}}),
(90,{cls:=.type "tuple",data:=.seq #[]}),
(92,{cls:=.type "tuple",data:=.seq #[.str "a" 300,.str "b" 301]}),
(93,{cls:=.type "tuple",data:=.seq #[]}),
(95,{cls:=.type "code",data:=.fields #[.str "radd" 297,.str "radd" 298,.str "/claim/cut.py" 299,.int 46 0,.int 2 0,.int 0 0,.int 0 0,.int 3 0,.ref 90,.bool true,.int 181 0,.ref 91,.none,.ref 92,.ref 93,.ref 94,.int 302 0,.int 46 0,.str "/claim/cut.py" 303]}),
(96,{cls:=.type "function",data:=.func {name:="radd",qualname:="radd",params:=p10.val.1,body:=FuncBody.stmts (p10.val.2.1),scope:=p10.val.2.2,globals:=3,closure:=[],defaults:=.none,kwdefaults:=.none,pyModule:=.str "cas.rats" 280,code:=.ref 95}}),
(97,{cls:=.type "tuple",data:=.seq #[]}),
(99,{cls:=.type "tuple",data:=.seq #[.str "a" 308,.str "b" 309]}),
(100,{cls:=.type "tuple",data:=.seq #[]}),
(102,{cls:=.type "code",data:=.fields #[.str "rmul" 305,.str "rmul" 306,.str "/claim/cut.py" 307,.int 48 0,.int 2 0,.int 0 0,.int 0 0,.int 3 0,.ref 97,.bool true,.int 181 0,.ref 98,.none,.ref 99,.ref 100,.ref 101,.int 310 0,.int 48 0,.str "/claim/cut.py" 311]}),
(103,{cls:=.type "function",data:=.func {name:="rmul",qualname:="rmul",params:=p11.val.1,body:=FuncBody.stmts (p11.val.2.1),scope:=p11.val.2.2,globals:=3,closure:=[],defaults:=.none,kwdefaults:=.none,pyModule:=.str "cas.rats" 280,code:=.ref 102}}),
(104,{cls:=.type "tuple",data:=.seq #[]}),
(106,{cls:=.type "tuple",data:=.seq #[.str "a" 316,.str "b" 317]}),
(107,{cls:=.type "tuple",data:=.seq #[]}),
(109,{cls:=.type "code",data:=.fields #[.str "rdiv" 313,.str "rdiv" 314,.str "/claim/cut.py" 315,.int 50 0,.int 2 0,.int 0 0,.int 0 0,.int 3 0,.ref 104,.bool true,.int 181 0,.ref 105,.none,.ref 106,.ref 107,.ref 108,.int 318 0,.int 50 0,.str "/claim/cut.py" 319]}),
(110,{cls:=.type "function",data:=.func {name:="rdiv",qualname:="rdiv",params:=p12.val.1,body:=FuncBody.stmts (p12.val.2.1),scope:=p12.val.2.2,globals:=3,closure:=[],defaults:=.none,kwdefaults:=.none,pyModule:=.str "cas.rats" 280,code:=.ref 109}}),
(111,{cls:=.type "tuple",data:=.seq #[]}),
(113,{cls:=.type "tuple",data:=.seq #[.str "a" 324]}),
(114,{cls:=.type "tuple",data:=.seq #[]}),
(116,{cls:=.type "code",data:=.fields #[.str "rneg" 321,.str "rneg" 322,.str "/claim/cut.py" 323,.int 52 0,.int 1 0,.int 0 0,.int 0 0,.int 3 0,.ref 111,.bool true,.int 181 0,.ref 112,.none,.ref 113,.ref 114,.ref 115,.int 325 0,.int 52 0,.str "/claim/cut.py" 326]}),
(117,{cls:=.type "function",data:=.func {name:="rneg",qualname:="rneg",params:=p13.val.1,body:=FuncBody.stmts (p13.val.2.1),scope:=p13.val.2.2,globals:=3,closure:=[],defaults:=.none,kwdefaults:=.none,pyModule:=.str "cas.rats" 280,code:=.ref 116}}),
(118,{cls:=.type "tuple",data:=.seq #[]}),
(120,{cls:=.type "tuple",data:=.seq #[.str "a" 331]}),
(121,{cls:=.type "tuple",data:=.seq #[]}),
(123,{cls:=.type "code",data:=.fields #[.str "rinv" 328,.str "rinv" 329,.str "/claim/cut.py" 330,.int 54 0,.int 1 0,.int 0 0,.int 0 0,.int 3 0,.ref 118,.bool true,.int 181 0,.ref 119,.none,.ref 120,.ref 121,.ref 122,.int 332 0,.int 54 0,.str "/claim/cut.py" 333]}),
(124,{cls:=.type "function",data:=.func {name:="rinv",qualname:="rinv",params:=p14.val.1,body:=FuncBody.stmts (p14.val.2.1),scope:=p14.val.2.2,globals:=3,closure:=[],defaults:=.none,kwdefaults:=.none,pyModule:=.str "cas.rats" 280,code:=.ref 123}}),
(125,{cls:=.type "tuple",data:=.seq #[]}),
(127,{cls:=.type "tuple",data:=.seq #[.str "a" 340,.str "b" 341,.str "found" 342,.str "powers" 343]}),
(128,{cls:=.type "tuple",data:=.seq #[]}),
(130,{cls:=.type "code",data:=.fields #[.str "mvadd" 337,.str "mvadd" 338,.str "/claim/cut.py" 339,.int 57 0,.int 2 0,.int 0 0,.int 0 0,.int 3 0,.ref 125,.bool true,.int 181 0,.ref 126,.none,.ref 127,.ref 128,.ref 129,.int 344 0,.int 57 0,.str "/claim/cut.py" 345]}),
(131,{cls:=.type "function",data:=.func {name:="mvadd",qualname:="mvadd",params:=p15.val.1,body:=FuncBody.stmts (p15.val.2.1),scope:=p15.val.2.2,globals:=3,closure:=[],defaults:=.none,kwdefaults:=.none,pyModule:=.str "cas.mvpoly" 335,code:=.ref 130}}),
(132,{cls:=.type "tuple",data:=.seq #[]}),
(134,{cls:=.type "tuple",data:=.seq #[.str "found" 350,.str "powers" 351,.str "rational" 352,.str "total" 353]}),
(135,{cls:=.type "tuple",data:=.seq #[]}),
(137,{cls:=.type "code",data:=.fields #[.str "add_term" 347,.str "add_term" 348,.str "/claim/cut.py" 349,.int 62 0,.int 3 0,.int 0 0,.int 0 0,.int 3 0,.ref 132,.bool true,.int 181 0,.ref 133,.none,.ref 134,.ref 135,.ref 136,.int 354 0,.int 62 0,.str "/claim/cut.py" 355]}),
(138,{cls:=.type "function",data:=.func {name:="add_term",qualname:="add_term",params:=p16.val.1,body:=FuncBody.stmts (p16.val.2.1),scope:=p16.val.2.2,globals:=3,closure:=[],defaults:=.none,kwdefaults:=.none,pyModule:=.str "cas.mvpoly" 335,code:=.ref 137}}),
(139,{cls:=.type "tuple",data:=.seq #[]}),
(142,{cls:=.type "code",data:=.fields #[.str "mvneg" 357,.str "mvneg" 358,.str "/claim/cut.py" 359,.int 68 0,.int 1 0,.int 0 0,.int 0 0,.int 3 0,.ref 139,.bool true,.int 181 0,.ref 140,.none,.none,.none,.ref 141,.int 360 0,.int 68 0,.str "/claim/cut.py" 361]}),
(143,{cls:=.type "function",data:=.func {name:="mvneg",qualname:="mvneg",params:=p17.val.1,body:=FuncBody.stmts (p17.val.2.1),scope:=p17.val.2.2,globals:=3,closure:=[],defaults:=.none,kwdefaults:=.none,pyModule:=.str "cas.mvpoly" 335,code:=.ref 142}}),
(144,{cls:=.type "tuple",data:=.seq #[]}),
(146,{cls:=.type "tuple",data:=.seq #[.str "a" 366,.str "b" 367]}),
(147,{cls:=.type "tuple",data:=.seq #[]}),
(149,{cls:=.type "code",data:=.fields #[.str "mvsub" 363,.str "mvsub" 364,.str "/claim/cut.py" 365,.int 70 0,.int 2 0,.int 0 0,.int 0 0,.int 3 0,.ref 144,.bool true,.int 181 0,.ref 145,.none,.ref 146,.ref 147,.ref 148,.int 368 0,.int 70 0,.str "/claim/cut.py" 369]}),
(150,{cls:=.type "function",data:=.func {name:="mvsub",qualname:="mvsub",params:=p18.val.1,body:=FuncBody.stmts (p18.val.2.1),scope:=p18.val.2.2,globals:=3,closure:=[],defaults:=.none,kwdefaults:=.none,pyModule:=.str "cas.mvpoly" 335,code:=.ref 149}}),
(151,{cls:=.type "tuple",data:=.seq #[]}),
(154,{cls:=.type "code",data:=.fields #[.str "mvscale" 371,.str "mvscale" 372,.str "/claim/cut.py" 373,.int 72 0,.int 2 0,.int 0 0,.int 0 0,.int 3 0,.ref 151,.bool true,.int 181 0,.ref 152,.none,.none,.none,.ref 153,.int 374 0,.int 72 0,.str "/claim/cut.py" 375]}),
(155,{cls:=.type "function",data:=.func {name:="mvscale",qualname:="mvscale",params:=p19.val.1,body:=FuncBody.stmts (p19.val.2.1),scope:=p19.val.2.2,globals:=3,closure:=[],defaults:=.none,kwdefaults:=.none,pyModule:=.str "cas.mvpoly" 335,code:=.ref 154}}),
(156,{cls:=.type "tuple",data:=.seq #[]}),
(159,{cls:=.type "code",data:=.fields #[.str "mvshift" 377,.str "mvshift" 378,.str "/claim/cut.py" 379,.int 76 0,.int 3 0,.int 0 0,.int 0 0,.int 3 0,.ref 156,.bool true,.int 181 0,.ref 157,.none,.none,.none,.ref 158,.int 380 0,.int 76 0,.str "/claim/cut.py" 381]}),
(160,{cls:=.type "function",data:=.func {name:="mvshift",qualname:="mvshift",params:=p20.val.1,body:=FuncBody.stmts (p20.val.2.1),scope:=p20.val.2.2,globals:=3,closure:=[],defaults:=.none,kwdefaults:=.none,pyModule:=.str "cas.mvpoly" 335,code:=.ref 159}}),
(161,{cls:=.type "tuple",data:=.seq #[]}),
(163,{cls:=.type "tuple",data:=.seq #[.str "a" 386,.str "b" 387,.str "found" 388,.str "powers" 389,.str "one" 390]}),
(164,{cls:=.type "tuple",data:=.seq #[]}),
(166,{cls:=.type "code",data:=.fields #[.str "mvmul" 383,.str "mvmul" 384,.str "/claim/cut.py" 385,.int 80 0,.int 2 0,.int 0 0,.int 0 0,.int 3 0,.ref 161,.bool true,.int 181 0,.ref 162,.none,.ref 163,.ref 164,.ref 165,.int 391 0,.int 80 0,.str "/claim/cut.py" 392]}),
(167,{cls:=.type "function",data:=.func {name:="mvmul",qualname:="mvmul",params:=p21.val.1,body:=FuncBody.stmts (p21.val.2.1),scope:=p21.val.2.2,globals:=3,closure:=[],defaults:=.none,kwdefaults:=.none,pyModule:=.str "cas.mvpoly" 335,code:=.ref 166}}),
(168,{cls:=.type "tuple",data:=.seq #[]}),
(170,{cls:=.type "tuple",data:=.seq #[.str "a" 397,.str "order" 398,.str "best" 399,.str "highest" 400,.str "powers" 401,.str "place" 402]}),
(171,{cls:=.type "tuple",data:=.seq #[]}),
(173,{cls:=.type "code",data:=.fields #[.str "mvlead" 394,.str "mvlead" 395,.str "/claim/cut.py" 396,.int 86 0,.int 2 0,.int 0 0,.int 0 0,.int 3 0,.ref 168,.bool true,.int 181 0,.ref 169,.none,.ref 170,.ref 171,.ref 172,.int 403 0,.int 86 0,.str "/claim/cut.py" 404]}),
(174,{cls:=.type "function",data:=.func {name:="mvlead",qualname:="mvlead",params:=p22.val.1,body:=FuncBody.stmts (p22.val.2.1),scope:=p22.val.2.2,globals:=3,closure:=[],defaults:=.none,kwdefaults:=.none,pyModule:=.str "cas.mvpoly" 335,code:=.ref 173}}),
(175,{cls:=.type "tuple",data:=.seq #[]}),
(177,{cls:=.type "tuple",data:=.seq #[.str "a" 409,.str "order" 410,.str "first" 411]}),
(178,{cls:=.type "tuple",data:=.seq #[]}),
(180,{cls:=.type "code",data:=.fields #[.str "mvmonic" 406,.str "mvmonic" 407,.str "/claim/cut.py" 408,.int 93 0,.int 2 0,.int 0 0,.int 0 0,.int 3 0,.ref 175,.bool true,.int 181 0,.ref 176,.none,.ref 177,.ref 178,.ref 179,.int 412 0,.int 93 0,.str "/claim/cut.py" 413]}),
(181,{cls:=.type "function",data:=.func {name:="mvmonic",qualname:="mvmonic",params:=p23.val.1,body:=FuncBody.stmts (p23.val.2.1),scope:=p23.val.2.2,globals:=3,closure:=[],defaults:=.none,kwdefaults:=.none,pyModule:=.str "cas.mvpoly" 335,code:=.ref 180}}),
(182,{cls:=.type "tuple",data:=.seq #[]}),
(184,{cls:=.type "tuple",data:=.seq #[.str "powers" 420,.str "leads" 421,.str "at" 422,.str "one" 423]}),
(185,{cls:=.type "tuple",data:=.seq #[]}),
(187,{cls:=.type "code",data:=.fields #[.str "first_divisor" 417,.str "first_divisor" 418,.str "/claim/cut.py" 419,.int 97 0,.int 2 0,.int 0 0,.int 0 0,.int 3 0,.ref 182,.bool true,.int 181 0,.ref 183,.none,.ref 184,.ref 185,.ref 186,.int 424 0,.int 97 0,.str "/claim/cut.py" 425]}),
(188,{cls:=.type "function",data:=.func {name:="first_divisor",qualname:="first_divisor",params:=p24.val.1,body:=FuncBody.stmts (p24.val.2.1),scope:=p24.val.2.2,globals:=3,closure:=[],defaults:=.none,kwdefaults:=.none,pyModule:=.str "cas.mvdiv" 415,code:=.ref 187}}),
(189,{cls:=.type "tuple",data:=.seq #[]}),
(192,{cls:=.type "code",data:=.fields #[.str "mvdivide" 427,.str "mvdivide" 428,.str "/claim/cut.py" 429,.int 102 0,.int 3 0,.int 0 0,.int 0 0,.int 3 0,.ref 189,.bool true,.int 181 0,.ref 190,.none,.none,.none,.ref 191,.int 430 0,.int 102 0,.str "/claim/cut.py" 431]}),
(193,{cls:=.type "function",data:=.func {name:="mvdivide",qualname:="mvdivide",params:=p25.val.1,body:=FuncBody.stmts (p25.val.2.1),scope:=p25.val.2.2,globals:=3,closure:=[],defaults:=.none,kwdefaults:=.none,pyModule:=.str "cas.mvdiv" 415,code:=.ref 192}}),
(194,{cls:=.type "tuple",data:=.seq #[]}),
(196,{cls:=.type "tuple",data:=.seq #[.str "f" 436,.str "some" 437,.str "order" 438]}),
(197,{cls:=.type "tuple",data:=.seq #[]}),
(199,{cls:=.type "code",data:=.fields #[.str "rest_of" 433,.str "rest_of" 434,.str "/claim/cut.py" 435,.int 117 0,.int 3 0,.int 0 0,.int 0 0,.int 3 0,.ref 194,.bool true,.int 181 0,.ref 195,.none,.ref 196,.ref 197,.ref 198,.int 439 0,.int 117 0,.str "/claim/cut.py" 440]}),
(200,{cls:=.type "function",data:=.func {name:="rest_of",qualname:="rest_of",params:=p26.val.1,body:=FuncBody.stmts (p26.val.2.1),scope:=p26.val.2.2,globals:=3,closure:=[],defaults:=.none,kwdefaults:=.none,pyModule:=.str "cas.mvdiv" 415,code:=.ref 199}}),
(201,{cls:=.type "tuple",data:=.seq #[]}),
(203,{cls:=.type "tuple",data:=.seq #[.str "a" 445,.str "b" 446,.str "quotients" 447,.str "rest" 448]}),
(204,{cls:=.type "tuple",data:=.seq #[]}),
(206,{cls:=.type "code",data:=.fields #[.str "mvexact" 442,.str "mvexact" 443,.str "/claim/cut.py" 444,.int 119 0,.int 2 0,.int 0 0,.int 0 0,.int 3 0,.ref 201,.bool true,.int 181 0,.ref 202,.none,.ref 203,.ref 204,.ref 205,.int 449 0,.int 119 0,.str "/claim/cut.py" 450]}),
(207,{cls:=.type "function",data:=.func {name:="mvexact",qualname:="mvexact",params:=p27.val.1,body:=FuncBody.stmts (p27.val.2.1),scope:=p27.val.2.2,globals:=3,closure:=[],defaults:=.none,kwdefaults:=.none,pyModule:=.str "cas.mvdiv" 415,code:=.ref 206}}),
(208,{cls:=.type "tuple",data:=.seq #[]}),
(210,{cls:=.type "tuple",data:=.seq #[.str "f" 455,.str "g" 456,.str "order" 457,.str "one" 458,.str "other" 459,.str "joined" 460,.str "first" 461]}),
(211,{cls:=.type "tuple",data:=.seq #[]}),
(213,{cls:=.type "code",data:=.fields #[.str "s_poly" 452,.str "s_poly" 453,.str "/claim/cut.py" 454,.int 124 0,.int 3 0,.int 0 0,.int 0 0,.int 3 0,.ref 208,.bool true,.int 181 0,.ref 209,.none,.ref 210,.ref 211,.ref 212,.int 462 0,.int 124 0,.str "/claim/cut.py" 463]}),
(214,{cls:=.type "function",data:=.func {name:="s_poly",qualname:="s_poly",params:=p28.val.1,body:=FuncBody.stmts (p28.val.2.1),scope:=p28.val.2.2,globals:=3,closure:=[],defaults:=.none,kwdefaults:=.none,pyModule:=.str "cas.mvdiv" 415,code:=.ref 213}}),
(215,{cls:=.type "tuple",data:=.seq #[]}),
(218,{cls:=.type "code",data:=.fields #[.str "is_divided" 465,.str "is_divided" 466,.str "/claim/cut.py" 467,.int 129 0,.int 2 0,.int 0 0,.int 0 0,.int 3 0,.ref 215,.bool true,.int 181 0,.ref 216,.none,.none,.none,.ref 217,.int 468 0,.int 129 0,.str "/claim/cut.py" 469]}),
(219,{cls:=.type "function",data:=.func {name:="is_divided",qualname:="is_divided",params:=p29.val.1,body:=FuncBody.stmts (p29.val.2.1),scope:=p29.val.2.2,globals:=3,closure:=[],defaults:=.none,kwdefaults:=.none,pyModule:=.str "cas.mvdiv" 415,code:=.ref 218}}),
(220,{cls:=.type "tuple",data:=.seq #[]}),
(222,{cls:=.type "tuple",data:=.seq #[.str "pair" 476,.str "leads" 477,.str "order" 478,.str "joined" 479]}),
(223,{cls:=.type "tuple",data:=.seq #[]}),
(225,{cls:=.type "code",data:=.fields #[.str "pair_key" 473,.str "pair_key" 474,.str "/claim/cut.py" 475,.int 132 0,.int 3 0,.int 0 0,.int 0 0,.int 3 0,.ref 220,.bool true,.int 181 0,.ref 221,.none,.ref 222,.ref 223,.ref 224,.int 480 0,.int 132 0,.str "/claim/cut.py" 481]}),
(226,{cls:=.type "function",data:=.func {name:="pair_key",qualname:="pair_key",params:=p30.val.1,body:=FuncBody.stmts (p30.val.2.1),scope:=p30.val.2.2,globals:=3,closure:=[],defaults:=.none,kwdefaults:=.none,pyModule:=.str "cas.groebner" 471,code:=.ref 225}}),
(227,{cls:=.type "tuple",data:=.seq #[]}),
(229,{cls:=.type "tuple",data:=.seq #[.str "pair" 486,.str "waiting" 487,.str "leads" 488,.str "one" 489,.str "other" 490,.str "joined" 491,.str "at" 492,.str "powers" 493]}),
(230,{cls:=.type "tuple",data:=.seq #[]}),
(232,{cls:=.type "code",data:=.fields #[.str "is_needless" 483,.str "is_needless" 484,.str "/claim/cut.py" 485,.int 135 0,.int 3 0,.int 0 0,.int 0 0,.int 3 0,.ref 227,.bool true,.int 181 0,.ref 228,.none,.ref 229,.ref 230,.ref 231,.int 494 0,.int 135 0,.str "/claim/cut.py" 495]}),
(233,{cls:=.type "function",data:=.func {name:="is_needless",qualname:="is_needless",params:=p31.val.1,body:=FuncBody.stmts (p31.val.2.1),scope:=p31.val.2.2,globals:=3,closure:=[],defaults:=.none,kwdefaults:=.none,pyModule:=.str "cas.groebner" 471,code:=.ref 232}}),
(234,{cls:=.type "tuple",data:=.seq #[]}),
(236,{cls:=.type "tuple",data:=.seq #[.str "waiting" 500,.str "leads" 501,.str "order" 502,.str "best" 503,.str "place" 504,.str "pair" 505,.str "told" 506]}),
(237,{cls:=.type "tuple",data:=.seq #[]}),
(239,{cls:=.type "code",data:=.fields #[.str "least_pair" 497,.str "least_pair" 498,.str "/claim/cut.py" 499,.int 146 0,.int 3 0,.int 0 0,.int 0 0,.int 3 0,.ref 234,.bool true,.int 181 0,.ref 235,.none,.ref 236,.ref 237,.ref 238,.int 507 0,.int 146 0,.str "/claim/cut.py" 508]}),
(240,{cls:=.type "function",data:=.func {name:="least_pair",qualname:="least_pair",params:=p32.val.1,body:=FuncBody.stmts (p32.val.2.1),scope:=p32.val.2.2,globals:=3,closure:=[],defaults:=.none,kwdefaults:=.none,pyModule:=.str "cas.groebner" 471,code:=.ref 239}}),
(241,{cls:=.type "tuple",data:=.seq #[]}),
(244,{cls:=.type "code",data:=.fields #[.str "groebner" 510,.str "groebner" 511,.str "/claim/cut.py" 512,.int 153 0,.int 3 0,.int 0 0,.int 0 0,.int 3 0,.ref 241,.bool true,.int 181 0,.ref 242,.none,.none,.none,.ref 243,.int 513 0,.int 153 0,.str "/claim/cut.py" 514]}),
(245,{cls:=.type "function",data:=.func {name:="groebner",qualname:="groebner",params:=p33.val.1,body:=FuncBody.stmts (p33.val.2.1),scope:=p33.val.2.2,globals:=3,closure:=[],defaults:=.none,kwdefaults:=.none,pyModule:=.str "cas.groebner" 471,code:=.ref 244}}),
(246,{cls:=.type "tuple",data:=.seq #[]}),
(249,{cls:=.type "code",data:=.fields #[.str "is_basis" 516,.str "is_basis" 517,.str "/claim/cut.py" 518,.int 172 0,.int 2 0,.int 0 0,.int 0 0,.int 3 0,.ref 246,.bool true,.int 181 0,.ref 247,.none,.none,.none,.ref 248,.int 519 0,.int 172 0,.str "/claim/cut.py" 520]}),
(250,{cls:=.type "function",data:=.func {name:="is_basis",qualname:="is_basis",params:=p34.val.1,body:=FuncBody.stmts (p34.val.2.1),scope:=p34.val.2.2,globals:=3,closure:=[],defaults:=.none,kwdefaults:=.none,pyModule:=.str "cas.groebner" 471,code:=.ref 249}}),
(251,{cls:=.type "tuple",data:=.seq #[]}),
(254,{cls:=.type "code",data:=.fields #[.str "minimal_basis" 522,.str "minimal_basis" 523,.str "/claim/cut.py" 524,.int 179 0,.int 2 0,.int 0 0,.int 0 0,.int 3 0,.ref 251,.bool true,.int 181 0,.ref 252,.none,.none,.none,.ref 253,.int 525 0,.int 179 0,.str "/claim/cut.py" 526]}),
(255,{cls:=.type "function",data:=.func {name:="minimal_basis",qualname:="minimal_basis",params:=p35.val.1,body:=FuncBody.stmts (p35.val.2.1),scope:=p35.val.2.2,globals:=3,closure:=[],defaults:=.none,kwdefaults:=.none,pyModule:=.str "cas.groebner" 471,code:=.ref 254}}),
(256,{cls:=.type "tuple",data:=.seq #[]}),
(258,{cls:=.type "tuple",data:=.seq #[.str "quotients" 533,.str "some" 534,.str "found" 535,.str "at" 536,.str "one" 537]}),
(259,{cls:=.type "tuple",data:=.seq #[]}),
(261,{cls:=.type "code",data:=.fields #[.str "sum_of_products" 530,.str "sum_of_products" 531,.str "/claim/cut.py" 532,.int 189 0,.int 2 0,.int 0 0,.int 0 0,.int 3 0,.ref 256,.bool true,.int 181 0,.ref 257,.none,.ref 258,.ref 259,.ref 260,.int 538 0,.int 189 0,.str "/claim/cut.py" 539]}),
(262,{cls:=.type "function",data:=.func {name:="sum_of_products",qualname:="sum_of_products",params:=p36.val.1,body:=FuncBody.stmts (p36.val.2.1),scope:=p36.val.2.2,globals:=3,closure:=[],defaults:=.none,kwdefaults:=.none,pyModule:=.str "cas.ideals" 528,code:=.ref 261}}),
(263,{cls:=.type "tuple",data:=.seq #[]}),
(265,{cls:=.type "tuple",data:=.seq #[.str "box" 546,.str "wide" 547]}),
(266,{cls:=.type "tuple",data:=.seq #[]}),
(268,{cls:=.type "code",data:=.fields #[.str "_law_take" 543,.str "_law_take" 544,.str "/claim/cut.py" 545,.int 195 0,.int 2 0,.int 0 0,.int 0 0,.int 3 0,.ref 263,.bool true,.int 181 0,.ref 264,.none,.ref 265,.ref 266,.ref 267,.int 548 0,.int 195 0,.str "/claim/cut.py" 549]}),
(269,{cls:=.type "function",data:=.func {name:="_law_take",qualname:="_law_take",params:=p37.val.1,body:=FuncBody.stmts (p37.val.2.1),scope:=p37.val.2.2,globals:=3,closure:=[],defaults:=.none,kwdefaults:=.none,pyModule:=.str "law_pf0049_01" 541,code:=.ref 268}}),
(270,{cls:=.type "tuple",data:=.seq #[]}),
(272,{cls:=.type "tuple",data:=.seq #[.str "box" 554,.str "found" 555]}),
(273,{cls:=.type "tuple",data:=.seq #[]}),
(275,{cls:=.type "code",data:=.fields #[.str "_law_poly" 551,.str "_law_poly" 552,.str "/claim/cut.py" 553,.int 200 0,.int 1 0,.int 0 0,.int 0 0,.int 3 0,.ref 270,.bool true,.int 181 0,.ref 271,.none,.ref 272,.ref 273,.ref 274,.int 556 0,.int 200 0,.str "/claim/cut.py" 557]}),
(276,{cls:=.type "function",data:=.func {name:="_law_poly",qualname:="_law_poly",params:=p38.val.1,body:=FuncBody.stmts (p38.val.2.1),scope:=p38.val.2.2,globals:=3,closure:=[],defaults:=.none,kwdefaults:=.none,pyModule:=.str "law_pf0049_01" 541,code:=.ref 275}}),
(277,{cls:=.type "tuple",data:=.seq #[]}),
(279,{cls:=.type "tuple",data:=.seq #[.str "some" 562,.str "order" 563,.str "most" 564]}),
(280,{cls:=.type "tuple",data:=.seq #[]}),
(282,{cls:=.type "code",data:=.fields #[.str "_law_tried" 559,.str "_law_tried" 560,.str "/claim/cut.py" 561,.int 205 0,.int 3 0,.int 0 0,.int 0 0,.int 3 0,.ref 277,.bool true,.int 181 0,.ref 278,.none,.ref 279,.ref 280,.ref 281,.int 565 0,.int 205 0,.str "/claim/cut.py" 566]}),
(283,{cls:=.type "function",data:=.func {name:="_law_tried",qualname:="_law_tried",params:=p39.val.1,body:=FuncBody.stmts (p39.val.2.1),scope:=p39.val.2.2,globals:=3,closure:=[],defaults:=.none,kwdefaults:=.none,pyModule:=.str "law_pf0049_01" 541,code:=.ref 282}}),
(284,{cls:=.type "tuple",data:=.seq #[]}),
(287,{cls:=.type "code",data:=.fields #[.str "_law_bound_right" 568,.str "_law_bound_right" 569,.str "/claim/cut.py" 570,.int 210 0,.int 2 0,.int 0 0,.int 0 0,.int 3 0,.ref 284,.bool true,.int 181 0,.ref 285,.none,.none,.none,.ref 286,.int 571 0,.int 210 0,.str "/claim/cut.py" 572]}),
(288,{cls:=.type "function",data:=.func {name:="_law_bound_right",qualname:="_law_bound_right",params:=p40.val.1,body:=FuncBody.stmts (p40.val.2.1),scope:=p40.val.2.2,globals:=3,closure:=[],defaults:=.none,kwdefaults:=.none,pyModule:=.str "law_pf0049_01" 541,code:=.ref 287}}),
(289,{cls:=.type "tuple",data:=.seq #[]}),
(291,{cls:=.type "tuple",data:=.seq #[.str "box" 577,.str "order" 578,.str "one" 579,.str "other" 580,.str "apart" 581]}),
(292,{cls:=.type "tuple",data:=.seq #[]}),
(294,{cls:=.type "code",data:=.fields #[.str "_law_one_pair_right" 574,.str "_law_one_pair_right" 575,.str "/claim/cut.py" 576,.int 219 0,.int 2 0,.int 0 0,.int 0 0,.int 3 0,.ref 289,.bool true,.int 181 0,.ref 290,.none,.ref 291,.ref 292,.ref 293,.int 582 0,.int 219 0,.str "/claim/cut.py" 583]}),
(295,{cls:=.type "function",data:=.func {name:="_law_one_pair_right",qualname:="_law_one_pair_right",params:=p41.val.1,body:=FuncBody.stmts (p41.val.2.1),scope:=p41.val.2.2,globals:=3,closure:=[],defaults:=.none,kwdefaults:=.none,pyModule:=.str "law_pf0049_01" 541,code:=.ref 294}}),
(296,{cls:=.type "tuple",data:=.seq #[]}),
(299,{cls:=.type "code",data:=.fields #[.str "law" 585,.str "law" 586,.str "/claim/cut.py" 587,.int 225 0,.int 1 0,.int 0 0,.int 0 0,.int 3 0,.ref 296,.bool true,.int 181 0,.ref 297,.none,.none,.none,.ref 298,.int 588 0,.int 225 0,.str "/claim/cut.py" 589]}),
(300,{cls:=.type "function",data:=.func {name:="law",qualname:="law",params:=p42.val.1,body:=FuncBody.stmts (p42.val.2.1),scope:=p42.val.2.2,globals:=3,closure:=[],defaults:=.none,kwdefaults:=.none,pyModule:=.str "law_pf0049_01" 541,code:=.ref 299}})]
noncomputable def heapP: { K: Params → Frag // ∀ P, heap0 P = K P } := ⟨fun P => _, fun P => by
 have h: heap0 P = heap0 P := rfl
 conv at h =>
  rhs
  unfold heap0
 delta p0 p1 p2 p3 p4 p5 p6 p7 p8 p9 p10 p11 p12 p13 p14 p15 p16 p17 p18 p19 p20 p21 p22 p23 p24 p25 p26 p27 p28 p29 p30 p31 p32 p33 p34 p35 p36 p37 p38 p39 p40 p41 p42 at h
 dsimp only at h
 exact h⟩
noncomputable def heapK: Params → Frag := heapP.val
end Mine.Internal
end
section
open PySem PySem.W PyProof.Rows
set_option maxRecDepth 1000000
set_option genSizeOf false
set_option compiler.extract_closed false
namespace Mine.Internal
noncomputable def pickK: List Stmt → List Nat → List Stmt
 | l, ns => ns.filterMap fun i => l[i]?
noncomputable def viewK: Program := { PySem.Challenge.pw_pf0049_01 with main := { PySem.Challenge.pw_pf0049_01.main with body := pickK PySem.Challenge.pw_pf0049_01.main.body [1, 3, 4, 5, 6, 7, 8, 9, 11, 13, 14, 15, 16, 17, 18, 19, 20, 22, 23, 24, 25, 26, 27, 28, 29, 30, 32, 33, 34, 35, 36, 37, 39, 40, 41, 42, 43, 44, 46, 48, 49, 50, 51, 52, 53] } }
noncomputable def addrsK: List Addr := (heapK {strHash := fun _ => 0, shareClass := fun _ => 0, mergeTok := id, idOf := fun _ => 0, idOfShared := fun _ _ => 0, followText := fun _ => false, idOfImm := fun _ => 0}).map (·.1)
theorem addrsK_ok: ∀ P, addrsK = (heapK P).map (·.1) := fun P => by kernel_rfl
noncomputable abbrev hookK: Hook := kHook heapK addrsK addrsK_ok
noncomputable def bT (P: Params): BT := .ins (.ins (.ins (.ins (.ins (.ins (.ins (.ins (.ins (.ins (.ins .nil 0 (boot_o_0 P)) 1 (boot_o_1 P)) 2 (boot_o_2 P)) 3 (boot_o_3 P)) 4 (boot_o_4 P)) 5 (boot_o_5 P)) 6 (boot_o_6 P)) 7 (boot_o_7 P)) 8 (boot_o_8 P)) 9 (boot_o_9 P)) 10 (boot_o_10 P)
noncomputable def topT (p: Program) (w: World) (m: Nat) (a: Option Value) (n: Nat): SharedT → Thread → Option SharedT :=
 Nat.rec (fun _ _ => none) (fun _ ih s t => cond (through t) (some s) (cond (stepOk m a t) ((stepT (denote treeTable) p w s t).bind fun r => ih r.1 r.2) none)) n
theorem cA {α: Type} {c: Bool} {a b r: α} (h: cond c a b = r): c = true ∧ a = r ∨ c = false ∧ b = r := by
 cases c with
 | true => exact .inl ⟨rfl, h⟩
 | false => exact .inr ⟨rfl, h⟩
theorem mT {α: Type} {c: Bool} {a b: α}: c = true → (match c with | true => a | false => b) = a := fun e => by rw [e]
theorem mF {α: Type} {c: Bool} {a b: α}: c = false → (match c with | true => a | false => b) = b := fun e => by rw [e]
theorem mG {α: Type} {c: Bool} {a b: α}: c = true → (match c with | false => b | true => a) = a := fun e => by rw [e]
theorem mS {α: Type} {y: Step} {s: Shared} {t: Thread} {g: Shared → Thread → α} {b: α}: y = .go s t → (match y with | .go s t => g s t | .halt _ _ => b) = g s t := fun h => by rw [h]
theorem oneS {c k: Bool} {x: Option (SharedT × Thread)} {y: Step} {s s': SharedT} {f: SharedT × Thread → Option SharedT} {g: Shared → Thread → Option Shared}: (∀ r, x = some r → y = .go r.1.abs r.2) → (∀ r, f r = some s' → g r.1.abs r.2 = some s'.abs) → cond c (some s) (cond k (x.bind f) none) = some s' →
  (match c with | true => some s.abs | false => match k with | false => none | true => match y with | .go s t => g s t | .halt _ _ => none) = some s'.abs := fun hx hf h =>
 (cA h).elim (fun q => (mT q.1).trans (congrArg (Option.map SharedT.abs) q.2)) fun q => (mF q.1).trans ((cA q.2).elim (fun r => (mG r.1).trans ((Option.bind_eq_some_iff.mp r.2).elim fun x y => (mS (hx _ y.1)).trans (hf _ y.2))) fun r => nomatch r.2)
theorem topT_of {p: Program} {w: World} {m: Nat} {a: Option Value} {s': SharedT} (n: Nat): ∀ (s: SharedT) (t: Thread), topT p w m a n s t = some s' → topRun treeTable p w m a n s.abs t = some s'.abs :=
 Nat.rec (fun s t h => nomatch h) (fun n ih s t h => (topRun.eq_2 ..).trans (oneS (fun r => stepT_spec) (fun r => ih _ _) h)) n
theorem open1 {o: Option Shared} {H: Heap} {g: Array GenState} {d: Drawn} {k: Nat} (h: o.map (fun s => (s.heap, s.gens, s.drawn, s.toks)) = some (H, g, d, k)): ∃ os, o = some ⟨H, g, d, k, os⟩ :=
 (Option.map_eq_some_iff.mp h).elim fun s h => ⟨s.os, h.1.trans (congrArg (fun x => some (⟨x.1, x.2.1, x.2.2.1, x.2.2.2, s.os⟩: Shared)) h.2)⟩
theorem top1 {c: Bool} {x: Option Shared} {s: Shared} {g: Shared → Bool}: c = true → x = some s → g s = true → (match c with | true => x.bind fun s => (match g s with | true => some s | false => none) | false => none) = some s := fun h1 h2 h3 => (mT h1).trans ((congrArg (Option.bind · _) h2).trans (mT h3))
theorem fin1 {β: Type} {o: Option Shared} {F: Shared → Option Shared} {s s': Shared} {G: Shared → β} {v: β} (h1: o = some s) (h2: F s = some s') (h3: G s' = v): (o.bind F).map G = some v := by rw [h1, ← h3]; exact congrArg _ h2
theorem left_of {p q: Program} {Xt: Shared → Bool} {α: Type} {Yf: Shared → α} {Ya: World → α} {N: Nat} {S: World → OsState → SharedT}
  (e: opening p = plainProg p.main.scope.names) (hN: Nat.ble 600 N = true) (f: ∀ s, fenceModules? p s = some s)
  (z1: ∀ P, ((boot_heap P).isNs mainGlobals && true) = true) (z2: ∀ P, absHeap (bT P) 11 {} = boot_heap P)
  (run: ∀ w os, topT p w (boot_heap w.params).objs.size ((boot_heap w.params).nsMap mainGlobals "__annotations__") N ⟨bT w.params, 11, {}, #[], boot_drawn, boot_toks, os⟩ (topStub p) = some (S w os))
  (l1: ∀ w os, (staticsOk (importedModules p.main.body) (boot_heap w.params) (S w os).abs.heap && namesBound p (S w os).abs.heap && gensDone (S w os).abs && laidKept (boot_heap w.params) (S w os).abs.heap) = true)
  (l2: ∀ w os, openSeen q [] (importedModules p.main.body) Xt true (S w os).abs = openGood q []) (l3: ∀ w os, Yf (S w os).abs = Ya w): LeftO p q [] Xt Yf Ya N := fun w =>
 (open1 (boot_open e hN f w)).elim fun os e1 => fin1 (F := topFrom treeTable p w N) e1 (top1 (z1 _) (Eq.subst (motive := fun H => topRun treeTable p w (boot_heap w.params).objs.size ((boot_heap w.params).nsMap mainGlobals "__annotations__") N ⟨H, #[], boot_drawn, boot_toks, os⟩ (topStub p) = some (S w os).abs) (z2 _) (topT_of N _ _ (run w os))) (l1 w os)) (Prod.ext (l2 w os) (l3 w os))
noncomputable def dE (P: Params) (k: Str) (i: Nat) (v: Value): DictEntry := {hash := PyData.keyHash P k, key := .str k i, val := v}
noncomputable def cO (f: Str) (n: Nat) (l: Int) (a b: Addr): Obj := {cls := .type "code", data := .fields #[.str f n, .str f (n + 1), .str "/claim/cut.py" (n + 2), .int l 0, .int 0 0, .int 0 0, .int 0 0, .int 0 0, .ref a, .bool false, .int 181 0, .ref b, .none, .none, .none, .none, .int (n + 3) 0, .int l 0, .str "/claim/cut.py" (n + 4)]}
noncomputable def fO (a b: Addr) (s: Str) (k: Nat): Obj := {cls := .type "frame", slots := #[some (.ref a), some (.ref 3), some (.ref b), none, some (.str s k), none, some (.ref 0)]}
noncomputable def fsK: Data → List Value
 | .fields v => v.toList
 | _ => []
noncomputable def fnK: Data → Option FuncData
 | .func d => some d
 | _ => none
noncomputable def bO (s: String) (a: Value): Obj := {cls := .type "builtin_function_or_method", data := .fields #[.builtin s, a]}
noncomputable def vO (l: List Value): Obj := {cls := .none, data := .fields ⟨l⟩}
noncomputable def specK (P: Params) (K: Frag): Frag := [(0, boot_o_0 P), (1, boot_o_1 P), (4, boot_o_4 P), (5, boot_o_5 P), (6, boot_o_6 P), (7, boot_o_7 P), (9, boot_o_9 P), (10, boot_o_10 P), (11, boot_o_7 P),
 (12, vO (.int 2 0 :: .int 0 0 :: .ref 20 :: K.flatMap fun x => cond (Nat.beq (fsK x.2.data).length 19 && !Nat.beq x.1 27) [(fsK x.2.data).getD 3 .none, .int 0 0, .ref x.1] [])),
 (13, cO "<module>" 182 1 11 12), (14, fO 13 3 "__main__" 164), (16, bO "type.__prepare__" (.type "type")),
 (17, {cls := .type "dict", data := .dict #[dE P "__module__" 196 (.str "cas.errors" 187), dE P "__qualname__" 198 (.str "CasFail" 197), dE P "__firstlineno__" 200 (.int 2 199), dE P "__init__" 209 (.ref 28), dE P "__static_attributes__" 212 (.ref 29)] 5}),
 (18, boot_o_7 P), (19, vO [.int 4 0, .int 4 0, .ref 27]), (20, cO "CasFail" 191 2 18 19), (21, fO 20 17 "cas.errors" 187), (33, {cls := .type "super", data := .fields #[.ref 31, .ref 31, .ref 31]}), (34, bO "object.__init_subclass__" (.ref 31))]
noncomputable def putK (T: BT) (x: Addr × Obj): BT := T.set x.1 fun _ => x.2
noncomputable def tF (P: Params): BT :=
 (specK P (heapK P)).foldl putK ((heapK P).foldl (fun T x => (fnK x.2.data).elim T fun d => putK T (x.1 - 2, {cls := .none, data := .func {d with globals := 0, pyModule := .none, code := .none}})) ((heapK P).foldl putK ((List.range 301).foldl (fun T i => T.ins i (boot_o_8 P)) .nil)))
noncomputable abbrev sF (w: World) (os: OsState): SharedT := ⟨tF w.params, 301, {}, #[], boot_drawn, 591, os⟩
theorem runT: ∀ w os, topT PySem.Challenge.rw_pf0049_01.row.prog w (boot_heap w.params).objs.size ((boot_heap w.params).nsMap mainGlobals "__annotations__") 3282 ⟨bT w.params, 11, {}, #[], boot_drawn, boot_toks, os⟩ (topStub PySem.Challenge.rw_pf0049_01.row.prog) = some (sF w os) := fun w os => by kernel_rfl
theorem look2: ∀ w os, openSeen viewK [] (importedModules PySem.Challenge.rw_pf0049_01.row.prog.main.body) (fun s => xlAt viewK [] s && recOk PySem.Challenge.rw_pf0049_01.row.records s) true (sF w os).abs = openGood viewK [] := fun w os => by kernel_rfl
theorem left1: LeftO PySem.Challenge.rw_pf0049_01.row.prog viewK [] (fun s => xlAt viewK [] s && recOk PySem.Challenge.rw_pf0049_01.row.records s) hookK.obs hookK.val 3282 :=
 left_of (S := sF) (by kernel_rfl) (by decide +kernel) (fun s => by kernel_rfl) (fun P => by kernel_rfl) (fun P => by kernel_rfl) runT (fun w os => by kernel_rfl) look2 (fun w os => by kernel_rfl)
end Mine.Internal
end
section
open PySem PySem.W PyProof.Rows
set_option maxRecDepth 1000000
set_option maxHeartbeats 8000000
namespace Mine.Internal
noncomputable def dK: DefRec := ⟨"law", p42.val.1, p42.val.2.1, p42.val.2.2, ⟨225, 0, 242, 103⟩⟩
theorem dK_ok: defOf viewK PySem.Challenge.rw_pf0049_01.row.name = some (dK, []) := by kernel_rfl
theorem said: PySem.Challenge.rw_pf0049_01.wellSaid = true := by
 delta OpenLaw.wellSaid OpenRow.wellSaid OpenRow.partSaid looksOpen
 repeat' with_reducible refine look_both ?_ ?_
 all_goals decide +kernel
theorem hd (call: ∀ d, defOf viewK PySem.Challenge.rw_pf0049_01.row.name = some (d, []) → WalkO viewK [] (XL viewK []) hookK.says PySem.Challenge.rw_pf0049_01.row.toRowW d [] fun f vs => PySem.call f vs): PySem.Challenge.rw_pf0049_01.Holds := by
 w_on
 refine holds_law said fun said => ?_
 refine holds_open (q := viewK) (loose := []) (Xt := fun s => xlAt viewK [] s && recOk PySem.Challenge.rw_pf0049_01.row.records s) (XP := XL viewK []) (Yf := hookK.obs) (Ya := hookK.val) (YP := hookK.says) (N := 3282) left1 (Hook.of hookK) (Hook.keeps hookK) (fun s e => xl_of s (Bool.and_eq_true_iff.mp e).1) XL.keeps dK_ok (by kernel_rfl) (by kernel_rfl) (fun s e => recFacts_of (Bool.and_eq_true_iff.mp e).2) (by rfl) (by first | assumption | decide +kernel) (by decide +kernel) ⟨rfl, rfl, rfl, rfl, rfl, by decide +kernel⟩ ?hw (call _ dK_ok)
 w_witness2
end Mine.Internal
end
section
open PySem PySem.W PySem.Calls PyProof.Rows
namespace Mine.Internal
theorem putName_cls (name: Str) (hs: Int) (key v: Value) (o: Obj): (Obj.putName name hs key v o).cls = o.cls := by
 rw [Obj.putName_eq]
 obtain ⟨c, d, dt, sl⟩ := o
 cases dt with
 | dict es n =>
  unfold Obj.putNameByArray
  dsimp only
  cases es.findIdx? (·.key.isStr name) <;> rfl
 | _ => rfl
theorem putName_live (name: Str) (hs: Int) (key v: Value) (o: Obj) {es: Array DictEntry} {ep: Nat} (hd: o.data = .dict es ep): (Obj.putName name hs key v o).isFreed = false := by
 rw [Obj.putName_eq]
 obtain ⟨c, d, dt, sl⟩ := o
 subst hd
 unfold Obj.putNameByArray
 dsimp only
 cases es.findIdx? (·.key.isStr name) <;> rfl
section
variable {M: Model} {A: Around} {E: Value → Shared → Prop} {s: Shared}
noncomputable def SameCls (a: Addr) (h h': Heap): Prop := ∀ o, h.get? a = some o → ∃ o', h'.get? a = some o' ∧ o'.cls = o.cls
theorem nsSet_cls {a: Addr} {m} {name: Str} {v: Value} {Q: Unit → Shared → Prop} (hn: s.heap.Ns a m)
  (h: ∀ h', h'.Ns a (fun x => if x = name then some v else m x) → Heap.SameBut a s.heap h' → SameCls a s.heap h' → Q () { s with heap := h', toks := s.toks + 1 }) :
  wpAny M A (nsSet a name v) Q E s := fun Γ p uu => by
 obtain ⟨o, es, ep, ho, hd, hk, hm⟩ := id hn
 have hany: es.any (·.refKey) = false := by
  rw [Array.any_eq_false']; intro e he; obtain ⟨n, t, h⟩ := hk e he; simp [DictEntry.refKey, h]
 have key: ∃ hs kv, ∀ (E': Value → Pos → Shared → Prop) (Q': Unit → Pos → Shared → Prop), Sem.wp M Γ (nsSet a name v) Q' E' p s ↔ Q' () p { s with heap := s.heap.update a (Obj.putName name hs kv v), toks := s.toks + 1 } := by
  apply Exists.intro
  apply Exists.intro
  intro E' Q'
  simp only [nsSet, strHash, Sem.wp_bind', Sem.wp_cmd_ask, Sem.wp_pure', Sem.wp_cmd_mkText]
  rw [Sem.wp_loadPart_of M Γ E' p { s with toks := s.toks + 1 } (o := o) _ ho]
  simp only [hd, aRefKeyMayBeTheName_eq, aRefKeyMayBeTheNameByArray, hany, Bool.and_false, Bool.false_eq_true, if_false, Sem.wp_cmd_updatePart]
  rw [ho]
  exact ⟨fun x => x.2, fun x => ⟨rfl, x⟩⟩
 obtain ⟨hs, kv, e⟩ := key
 have k := Sem.wp_nsSet M Γ (fun uu uu uu => False) p s hn name v (fun uu uu s' => s'.heap.Ns a (fun x => if x = name then some v else m x) ∧ Heap.SameBut a s.heap s'.heap) fun h' a b => ⟨a, b⟩
 obtain ⟨k1, k2⟩ := (e _ _).mp k
 refine (e _ _).mpr (h _ k1 k2 fun o' e' => ?_)
 rw [ho] at e'; cases e'
 exact ⟨_, Heap.get?_update_self _ ho (putName_live name hs kv v o hd), putName_cls ..⟩
theorem storeLocal_cls {env: Env} {name: Str} {m} {v: Value} {Q: Unit → Shared → Prop} (hl: env.kindOf name = some .local)
  (hn: s.heap.Ns env.locals m)
  (h: ∀ h', h'.Ns env.locals (fun x => if x = name then some v else m x) → Heap.SameBut env.locals s.heap h' → SameCls env.locals s.heap h' →
   Q () { s with heap := h', toks := s.toks + 1 })
  (hp: (env.scope.kind == .class || (env.scope.kind == .module && env.locals != env.globals)) = false := by rfl): wpAny M A (storeName env name v) Q E s := by
 rw [storeName_local hl hp]; exact nsSet_cls hn h
theorem storeCell_cls {env: Env} {name: Str} {c: Addr} {v₀: Option Value} {v: Value} {Q: Unit → Shared → Prop} (hk: env.scope.kind = .function) (hl: env.kindOf name = some .cell)
  (hc: env.cells.lookup name = some c) (hv: s.heap.IsCell c v₀)
  (h: ∀ h', h'.IsCell c (some v) → Heap.SameBut c s.heap h' → SameCls c s.heap h' → Q () { s with heap := h' }): wpAny M A (storeName env name v) Q E s := by
 obtain ⟨o, ho, hd⟩ := hv
 unfold storeName
 simp only [hl, hk]
 refine wpAny_bind (wpAny_cellOf hc ?_)
 unfold cellSet
 refine wpAny_bind (wpAny_load ho ?_)
 rw [hd]
 refine wpAny_update ho (h _ ⟨{ o with data := .cell (some v) }, Heap.get?_update_self _ ho rfl, rfl⟩ (Heap.SameBut.update ..) fun o' e' => ?_)
 rw [ho] at e'; cases e'
 exact ⟨_, Heap.get?_update_self _ ho rfl, rfl⟩
noncomputable def FrC (a: Addr) (h: Heap): Prop := ∃ o, h.get? a = some o ∧ o.cls = .type "frame"
theorem FrC.same {a: Addr} {h h': Heap} (x: FrC a h) (y: SameCls a h h'): FrC a h' := by
 obtain ⟨o, e, c⟩ := x; obtain ⟨o', e', c'⟩ := y o e; exact ⟨o', e', c'.trans c⟩
theorem bindParams_cls {s₀: Shared} {env: Env} (f: Str × Value → PUnit → Sem (ForInStep PUnit)) (hf: ∀ n v u, f (n, v) u = (do storeName env n v; pure (.yield ⟨⟩))) (hk: env.scope.kind = .function) :
  ∀ (binds: List (Str × Value)) (m cm: Str → Option Value) (s: Shared) (Q: PUnit → Shared → Prop), InCallC s₀ env.locals m env.cells cm s → FrC env.locals s.heap →
   (∀ x ∈ binds, env.kindOf x.1 = some .local ∨ (env.kindOf x.1 = some .cell ∧ (env.cells.lookup x.1).isSome = true)) →
   (∀ s', InCallC s₀ env.locals (bindL env.kindOf binds m) env.cells (bindC env.kindOf binds cm) s' → FrC env.locals s'.heap → Q ⟨⟩ s') → wpAny M A (forIn binds ⟨⟩ f) Q E s := by
 intro binds
 induction binds with
 | nil => intro m cm s Q x c uu h; rw [List.forIn_nil]; exact wpAny_pure (h s x c)
 | cons b r ih =>
  obtain ⟨n, v⟩ := b
  intro m cm s Q x c hkind h
  rw [List.forIn_cons, hf]
  have hr: ∀ y ∈ r, env.kindOf y.1 = some .local ∨ (env.kindOf y.1 = some .cell ∧ (env.cells.lookup y.1).isSome = true) := fun y hy => hkind y (List.mem_cons_of_mem _ hy)
  rcases hkind (n, v) List.mem_cons_self with hl | ⟨hl, hc⟩
  ·refine wpAny_bind (wpAny_bind (storeLocal_cls hl x.toInCall.ns (fun h' hn' hs' hc' => wpAny_pure ?_) (by rw [hk]; rfl)))
   refine ih _ cm _ Q ⟨⟨?_, hn', fun b o e => ?_, x.toInCall.fresh⟩, fun k c hc => ?_, x.apart, x.above⟩ (c.same hc') hr fun s'' x'' c'' => h s'' ?_ c''
   ·obtain ⟨h₁, tk, e⟩ := x.toInCall.same
    exact ⟨h', _, by rw [e]⟩
   ·exact hs'.extBut b o (Nat.ne_of_lt (Nat.lt_of_lt_of_le (Heap.lt_size e) x.toInCall.fresh)) (x.toInCall.keep b o e)
   ·exact (x.cell k c hc).sameBut hs' (Nat.ne_of_gt (x.above k c (mem_of_lookup hc)))
   ·unfold bindL bindC; rw [if_pos hl, if_pos hl]; exact x''
  ·obtain ⟨c0, hc⟩ := Option.isSome_iff_exists.mp hc
   have hnl: ¬ env.kindOf n = some .local := by rw [hl]; decide
   have hLc := x.above n c0 (mem_of_lookup hc)
   refine wpAny_bind (wpAny_bind (wpAny_storeName_cell hk hl hc (x.cell n c0 hc) fun h' hc' hs' => wpAny_pure ?_))
   refine ih _ (fun y => if y = n then some v else cm y) _ Q ⟨⟨?_, x.toInCall.ns.sameBut hs' (Nat.ne_of_lt hLc), fun b o e => ?_, x.toInCall.fresh⟩, fun k c' hk' => ?_, x.apart, x.above⟩ ?_ hr fun s'' x'' c'' => h s'' ?_ c''
   ·obtain ⟨h₁, tk, e⟩ := x.toInCall.same
    exact ⟨h', _, by rw [e]⟩
   ·exact hs'.extBut b o (Nat.ne_of_lt (Nat.lt_trans (Nat.lt_of_lt_of_le (Heap.lt_size e) x.toInCall.fresh) hLc)) (x.toInCall.keep b o e)
   ·by_cases hkn: k = n
    ·subst hkn
     rw [hc] at hk'; cases hk'
     simpa using hc'
    ·rw [if_neg hkn]
     exact (x.cell k c' hk').sameBut hs' fun e => hkn (name_of_addr x.apart (mem_of_lookup hk') (e ▸ mem_of_lookup hc))
   ·obtain ⟨o, e, q⟩ := c
    exact ⟨o, (hs'.2 _ (Nat.ne_of_lt hLc)).trans e, q⟩
   ·unfold bindL bindC; rw [if_neg hnl, if_neg hnl]; exact x''
theorem newFunctionEnv_cls {scope: Scope} {globals: Addr} {binds: List (Str × Value)} {qual: Str} {func: Option Addr} {code: Value} {builtins: Addr} {Q: Env → Shared → Prop}
  (hk: scope.kind = .function)
  (hkind: ∀ x ∈ binds, scope.names.lookup x.1 = some .local ∨ (scope.names.lookup x.1 = some .cell ∧ ((cellsFrom (s.heap.objs.size + 1) scope.names []).lookup x.1).isSome = true))
  (hQ: ∀ env, env = newEnv scope s.heap.objs.size globals (cellsFrom (s.heap.objs.size + 1) scope.names []) qual func code none builtins →
   ∀ s', InCallC s env.locals (bindL env.kindOf binds fun uu => none) env.cells (bindC env.kindOf binds fun uu => none) s' → FrC env.locals s'.heap → Q env s') :
  wpAny M A (newFunctionEnv scope globals [] binds qual func code none builtins) Q E s := by
 simp only [newFunctionEnv, Option.isSome_none, Bool.false_eq_true, if_false]
 refine wpAny_bind (wpAny_alloc ?_)
 refine wpAny_bind (wpAny_layCells _ (fun name kind cells => by cases hkc: kind == NameKind.cell <;> simp [hkc]) _ _ _ _ ?_)
 have ok := cellsFrom_ok scope.names (s.heap.push { cls := .type "frame", data := .dict #[] }) (s.heap.objs.size + 1) [] ⟨fun uu uu hm => (nomatch hm), List.Pairwise.nil⟩ (by rw [Heap.size_push]; exact Nat.le_refl _)
 rw [Heap.size_push] at ok
 rw [show ({ s with heap := s.heap.push { cls := .type "frame", data := .dict #[] } }: Shared).heap.objs.size = s.heap.objs.size + 1 from Heap.size_push ..]
 refine wpAny_bind (bindParams_cls (s₀ := s) (env := newEnv scope s.heap.objs.size globals (cellsFrom (s.heap.objs.size + 1) scope.names []) qual func code none builtins)
  _ (fun uu uu uu => rfl) hk binds (fun uu => none) (fun uu => none) _ _
  ⟨⟨⟨_, _, rfl⟩, (Heap.Ns.new s.heap (.type "frame")).keeps (pushCells_keeps _ _), fun b o e => pushCells_keeps _ _ b o (Heap.get?_push_of_some _ e), Nat.le_refl _⟩,
   fun n c hc => (ok.empty n c (mem_of_lookup hc)).1, ok.apart, fun n c hm => (ok.empty n c hm).2⟩
  ⟨_, pushCells_keeps _ _ _ _ (Heap.get?_push_size _ rfl), rfl⟩
  hkind fun s' x c => wpAny_pure (hQ _ rfl s' x c))
end
section
variable {prog: Program} {w: World} {A: Around} {s: Shared}
theorem call_cells_cls {R: Result → Shared → Prop} {a: Addr} {o: Obj} {fd: FuncData} {body: List Stmt} {vals: List Value} {binds: List (Str × Value)}
  (hroom: A.depth < recursionLimit) (ho: s.heap.get? a = some o) (hdata: o.data = .func fd) (hlim: s.heap.NoLimit) (hcd: s.heap.CodeRec fd.code fd.qualname)
  (hbody: fd.body = .stmts body) (hbind: bindArgs fd ⟨vals, []⟩ = pure binds) (hclo: fd.closure = [])
  (hkind: ∀ x ∈ binds, fd.scope.names.lookup x.1 = some .local ∨ (fd.scope.names.lookup x.1 = some .cell ∧ ((cellsFrom (s.heap.objs.size + 1) fd.scope.names []).lookup x.1).isSome = true))
  (h: ∀ s₁, InCallC s (callEnvC fd s.heap.objs.size a).locals (bindL (callEnvC fd s.heap.objs.size a).kindOf binds fun uu => none) (callEnvC fd s.heap.objs.size a).cells
    (bindC (callEnvC fd s.heap.objs.size a).kindOf binds fun uu => none) s₁ → FrC (callEnvC fd s.heap.objs.size a).locals s₁.heap →
   wpAny (model prog w) (A.deeper (callEnvC fd s.heap.objs.size a)) (execs body (callEnvC fd s.heap.objs.size a)) (fun f s' => R (.ok (.ret (match f with | .ret v => v | _ => .none))) s')
    (fun e s' => wpAny (model prog w) (A.deeper (callEnvC fd s.heap.objs.size a)) (leaving (callEnvC fd s.heap.objs.size a) e) (fun uu s'' => R (.error e) s'') (fun e' s'' => R (.error e') s'') s') s₁)
  (hco: fd.scope.isCoroutine = false := by rfl) (hgen: fd.scope.isGenerator = false := by rfl) (hk: fd.scope.kind = .function := by rfl) :
  codeAny (model prog w) A (.call (.ref a) ⟨vals, []⟩) R s := by
 refine codeAny_call_function hroom ho hdata hco hgen hbody hcd ?_
 rw [hbind, hclo]
 refine wpAny_pure (newFunctionEnv_cls hk hkind fun env he s' x c => ?_)
 subst he
 exact ⟨hlim.keeps x.toInCall.keep, codeAny_func (h s' x c)⟩
end
end Mine.Internal
end
section
open PySem PySem.W PySem.Calls PyProof.Rows
namespace Mine.Internal
theorem hide {g: Prop} (h: ∀ G: Prop, (g → G) → G): g := h g id
@[elab_as_elim] theorem gen_ {α: Type} {P: α → Prop} (a: α) (h: ∀ x, P x): P a := h a
@[elab_as_elim] theorem genE_ {α: Type} {P: α → Prop} (a: α) (h: ∀ x, a = x → P x): P a := h a rfl
noncomputable abbrev prg: Program := PySem.Challenge.pw_pf0049_01
noncomputable abbrev tkd (w: World): HeapKind prg w (List Int) := tupleKind (intKind prg w)
inductive V where
 | none | bool (b: Bool) | int (i: Int) | str (s: Str) | tup (l: List V) | ref (a: Addr)
noncomputable abbrev Mon := Int × Int
noncomputable abbrev Rt := Int × Int
noncomputable abbrev PL := List (Mon × Rt)
inductive MO where
 | list (xs: List V)
 | poly (p: PL)
structure MH where
 o: Addr → Option MO
 ver: Addr → Nat
noncomputable abbrev Rho := Str → Option V
mutual
inductive VR (h: Heap): Value → V → Prop
 | none: VR h .none .none
 | bool (b: Bool): VR h (.bool b) (.bool b)
 | int (i: Int) (t: Tok): VR h (.int i t) (.int i)
 | str (s: Str) (t: Tok): VR h (.str s t) (.str s)
 | tup {a: Addr} {vals: List Value} {xs: List V} {n: Nat}: h.get? a = some { cls := .type "tuple", data := .seq vals.toArray n } → VRs h vals xs → VR h (.ref a) (.tup xs)
 | ref (a: Addr): VR h (.ref a) (.ref a)
inductive VRs (h: Heap): List Value → List V → Prop
 | nil: VRs h [] []
 | cons {v: Value} {x: V} {vs: List Value} {xs: List V}: VR h v x → VRs h vs xs → VRs h (v :: vs) (x :: xs)
end
inductive IInt (v: Value) (i: Int): Prop
 | mk (t: Tok) (e: v = .int i t)
inductive ITup (h: Heap) (v: Value) (xs: List V): Prop
 | mk (a: Addr) (vals: List Value) (n: Nat) (e: v = .ref a) (g: h.get? a = some { cls := .type "tuple", data := .seq (List.toArray vals) n }) (r: VRs h vals xs)
section
variable {h: Heap}
theorem VR.iint {v: Value} {i: Int} (r: VR h v (.int i)): IInt v i := by cases r; exact ⟨_, rfl⟩
theorem VR.istr {v: Value} {i: Str} (r: VR h v (.str i)): ∃ t, v = .str i t := by cases r; exact ⟨_, rfl⟩
theorem VR.ibool {v: Value} {b: Bool} (r: VR h v (.bool b)): v = .bool b := by cases r; rfl
theorem VR.inone {v: Value} (r: VR h v .none): v = .none := by cases r; rfl
theorem VR.iref {v: Value} {a: Addr} (r: VR h v (.ref a)): v = .ref a := by cases r; rfl
theorem VR.itup {v: Value} {xs: List V} (r: VR h v (.tup xs)): ITup h v xs := by
 cases r with | tup e q => exact ⟨_, _, _, rfl, e, q⟩
theorem VR.irtup {a: Addr} {xs: List V} (r: VR h (.ref a) (.tup xs)): ∃ vals n, h.get? a = some { cls := .type "tuple", data := .seq (List.toArray vals) n } ∧ VRs h vals xs := by
 obtain ⟨uu, uu, uu, e, q1, q2⟩ := r.itup; cases e; exact ⟨_, _, q1, q2⟩
theorem VR.irref {a b: Addr} (r: VR h (.ref a) (.ref b)): a = b := Value.ref.inj r.iref
theorem VR.oint {i: Int} {t: Tok} {x: V} (r: VR h (.int i t) x): x = .int i := by cases r; rfl
theorem VR.ostr {i: Str} {t: Tok} {x: V} (r: VR h (.str i t) x): x = .str i := by cases r; rfl
theorem VR.obool {b: Bool} {x: V} (r: VR h (.bool b) x): x = .bool b := by cases r; rfl
theorem VR.onone {x: V} (r: VR h .none x): x = .none := by cases r; rfl
theorem tupInj {a b: List Value} {n k: Nat} (e: (some { cls := .type "tuple", data := .seq (List.toArray a) n }: Option Obj) = some { cls := .type "tuple", data := .seq (List.toArray b) k }): a = b := by
 have e2 := congrArg Obj.data (Option.some.inj e)
 exact congrArg Array.toList (Data.seq.inj e2).1
theorem VRs.inil {vs: List Value} (r: VRs h vs []): vs = [] := by cases r; rfl
theorem VRs.icons {vs: List Value} {x: V} {xs: List V} (r: VRs h vs (x :: xs)): ∃ v vs', vs = v :: vs' ∧ VR h v x ∧ VRs h vs' xs := by
 cases r with | cons a b => exact ⟨_, _, rfl, a, b⟩
theorem VRs.iccons {v: Value} {vs: List Value} {x: V} {xs: List V} (r: VRs h (v :: vs) (x :: xs)): VR h v x ∧ VRs h vs xs := by
 cases r with | cons a b => exact ⟨a, b⟩
end
theorem nsF {α: Type} {x: α} {p: Prop} (h: (none: Option α) = some x): p := nomatch h
theorem snF {α: Type} {x: α} {p: Prop} (h: some x = (none: Option α)): p := nomatch h
noncomputable def TupKeep (h h': Heap): Prop := ∀ a o, h.get? a = some o → o.cls = .type "tuple" → (∃ xs n, o.data = .seq xs n) → h'.get? a = some o
theorem VR.monos {h h': Heap} (hk: TupKeep h h'): (∀ {v: Value} {x: V}, VR h v x → VR h' v x) ∧ (∀ {vs: List Value} {xs: List V}, VRs h vs xs → VRs h' vs xs) :=
 ⟨fun r => VR.rec (motive_1 := fun v x uu => VR h' v x) (motive_2 := fun vs xs uu => VRs h' vs xs) .none .bool .int .str (fun e uu ih => .tup (hk _ _ e rfl ⟨_, _, rfl⟩) ih) .ref .nil (fun uu uu a b => .cons a b) r,
  fun r => VRs.rec (motive_1 := fun v x uu => VR h' v x) (motive_2 := fun vs xs uu => VRs h' vs xs) .none .bool .int .str (fun e uu ih => .tup (hk _ _ e rfl ⟨_, _, rfl⟩) ih) .ref .nil (fun uu uu a b => .cons a b) r⟩
theorem VR.mono' {h h': Heap} (hk: TupKeep h h') {v: Value} {x: V}: VR h v x → VR h' v x := (VR.monos hk).1
theorem VRs.mono' {h h': Heap} (hk: TupKeep h h') {vs: List Value} {xs: List V}: VRs h vs xs → VRs h' vs xs := (VR.monos hk).2
theorem VRs.elim {h: Heap} {P: List Value → List V → Prop} (hn: P [] []) (hc: ∀ {v x vs xs}, VR h v x → VRs h vs xs → P vs xs → P (v :: vs) (x :: xs)) {vs: List Value} {xs: List V} (r: VRs h vs xs): P vs xs :=
 VRs.rec (motive_1 := fun uu uu uu => True) (motive_2 := fun vs xs uu => P vs xs) trivial (fun uu => trivial) (fun uu uu => trivial) (fun uu uu => trivial) (fun uu uu uu => trivial) (fun uu => trivial) hn (fun a b uu ih => hc a b ih) r
theorem VRs.length {h: Heap} {vs: List Value} {xs: List V} (r: VRs h vs xs): vs.length = xs.length :=
 VRs.elim (P := fun vs xs => vs.length = xs.length) rfl (fun uu uu ih => congrArg (· + 1) ih) r
theorem VRs.get {h: Heap} {vs: List Value} {xs: List V} (r: VRs h vs xs): ∀ {i: Nat} {x: V}, xs[i]? = some x → ∃ v, vs[i]? = some v ∧ VR h v x :=
 VRs.elim (P := fun vs xs => ∀ {i: Nat} {x: V}, xs[i]? = some x → ∃ v, vs[i]? = some v ∧ VR h v x) (fun e => nsF e) (fun {v x uu uu} hv uu ih i y e => match i, e with
  | 0, e => ⟨v, rfl, Option.some.inj e ▸ hv⟩
  | _ + 1, e => ih e) r
theorem VRs.append {h: Heap} {vs ws: List Value} {xs ys: List V} (r: VRs h vs xs) (q: VRs h ws ys): VRs h (vs ++ ws) (xs ++ ys) :=
 VRs.elim (P := fun vs xs => VRs h (vs ++ ws) (xs ++ ys)) q (fun a uu ih => .cons a ih) r
inductive All2 {α β: Type} (R: α → β → Prop): List α → List β → Prop
 | nil: All2 R [] []
 | cons {a b as bs}: R a b → All2 R as bs → All2 R (a :: as) (b :: bs)
theorem All2.length {α β: Type} {R: α → β → Prop} {as: List α} {bs: List β} (r: All2 R as bs): as.length = bs.length := by
 induction r with
 | nil => rfl
 | cons uu uu ih => exact congrArg (· + 1) ih
theorem All2.mono {α β: Type} {R R': α → β → Prop} (hm: ∀ a b, R a b → R' a b) {as: List α} {bs: List β} (r: All2 R as bs): All2 R' as bs := by
 induction r with
 | nil => exact .nil
 | cons h uu ih => exact .cons (hm _ _ h) ih
theorem All2.append {α β: Type} {R: α → β → Prop} {as cs: List α} {bs ds: List β} (r: All2 R as bs) (q: All2 R cs ds): All2 R (as ++ cs) (bs ++ ds) := by
 induction r with
 | nil => exact q
 | cons h uu ih => exact .cons h ih
noncomputable abbrev rv (c: Rt): V := .tup [.int c.1, .int c.2]
noncomputable abbrev mv (m: Mon): V := .tup [.int m.1, .int m.2]
noncomputable def PE (h: Heap) (x: List Int × Addr × Value) (e: Mon × Rt): Prop := x.1 = [e.1.1, e.1.2] ∧ VR h x.2.2 (rv e.2) ∧ VR h (.ref x.2.1) (mv e.1)
noncomputable def MR (w: World) (h: Heap) (a: Addr): MO → Prop
 | .list xs => ∃ vals: List Value, h.PlainList a vals.toArray ∧ VRs h vals xs
 | .poly p => ∃ xs: List (List Int × Addr × Value), h.DictOfH (tkd w) a xs ∧ All2 (PE h) xs p
structure Ext (X: Addr → Prop) (H: MH) (h: Heap) (H': MH) (h': Heap): Prop where
 keep: ∀ b o, h.get? b = some o → H.o b = none → ¬ X b → o.cls ≠ .type "frame" → h'.get? b = some o
 fkeep: ∀ b o, h.get? b = some o → H.o b = none → ¬ X b → ∃ o', h'.get? b = some o' ∧ o'.data = o.data ∧ o'.cls = o.cls
 dom: ∀ b, H.o b ≠ none → H'.o b ≠ none
 ver: ∀ b, H.ver b ≤ H'.ver b
 same: ∀ b o, h.get? b = some o → H.o b ≠ none → H'.ver b = H.ver b → h'.get? b = some o
 new: ∀ b, H'.o b ≠ none → H.o b ≠ none ∨ h.objs.size ≤ b
 size: h.objs.size ≤ h'.objs.size
theorem Ext.refl (X: Addr → Prop) (H: MH) (h: Heap): Ext X H h H h :=
 ⟨fun uu uu e uu uu uu => e, fun uu o e uu uu => ⟨o, e, rfl, rfl⟩, fun uu e => e, fun uu => Nat.le_refl _, fun uu uu e uu uu => e, fun uu e => .inl e, Nat.le_refl _⟩
theorem Ext.none' {X: Addr → Prop} {H H': MH} {h h': Heap} (x: Ext X H h H' h') {b: Addr} {o: Obj} (e: h.get? b = some o) (n: H.o b = none): H'.o b = none := by
 cases q: H'.o b with
 | none => rfl
 | some mo =>
  rcases x.new b (by rw [q]; simp) with c | c
  ·exact absurd n c
  ·exact absurd (Heap.lt_size e) (Nat.not_lt.mpr c)
theorem Ext.trans {X: Addr → Prop} {H H' H'': MH} {h h' h'': Heap} (x: Ext X H h H' h') (y: Ext X H' h' H'' h''): Ext X H h H'' h'' where
 keep b o e n nx hc := y.keep b o (x.keep b o e n nx hc) (x.none' e n) nx hc
 fkeep b o e n nx := by
  obtain ⟨o1, e1, d1, c1⟩ := x.fkeep b o e n nx
  obtain ⟨o2, e2, d2, c2⟩ := y.fkeep b o1 e1 (x.none' e n) nx
  exact ⟨o2, e2, d2.trans d1, c2.trans c1⟩
 dom b e := y.dom b (x.dom b e)
 ver b := Nat.le_trans (x.ver b) (y.ver b)
 same b o e n q := by
  have h1 := x.ver b
  have h2 := y.ver b
  exact y.same b o (x.same b o e n (by omega)) (x.dom b n) (by omega)
 new b e := by
  rcases y.new b e with c | c
  ·exact x.new b c
  ·exact .inr (Nat.le_trans x.size c)
 size := Nat.le_trans x.size y.size
theorem Ext.weaken {X Y: Addr → Prop} {H H': MH} {h h': Heap} (x: Ext X H h H' h') (hxy: ∀ a, X a → Y a): Ext Y H h H' h' :=
 ⟨fun b o e n nx hc => x.keep b o e n (fun q => nx (hxy b q)) hc, fun b o e n nx => x.fkeep b o e n (fun q => nx (hxy b q)), x.dom, x.ver, x.same, x.new, x.size⟩
noncomputable abbrev NoX: Addr → Prop := fun uu => False
structure HS (w: World) (B: Heap) (fr: List Env) (H: MH) (s: Shared): Prop where
 base: ∀ b o, B.get? b = some o → s.heap.get? b = some o
 sep: ∀ a, H.o a ≠ none → B.get? a = none
 rep: ∀ a mo, H.o a = some mo → MR w s.heap a mo
 frs: s.heap.FunFrames B fr
 frsep: ∀ env ∈ fr, ∀ L, env.frame = some L → H.o L = none
 frc: ∀ env ∈ fr, ∀ L, env.frame = some L → FrC L s.heap
 lt: ∀ a, H.o a ≠ none → a < s.heap.objs.size
 low: sysModules < s.heap.objs.size ∧ ∀ a, H.o a ≠ none → sysModules < a
structure Gr (X: Addr → Prop) (H: MH) (s: Shared) (H': MH) (s': Shared): Prop where
 same: s' = { s with heap := s'.heap, toks := s'.toks }
 ext: Ext X H s.heap H' s'.heap
theorem Gr.refl (X: Addr → Prop) (H: MH) (s: Shared): Gr X H s H s := ⟨rfl, .refl ..⟩
theorem Gr.trans {X: Addr → Prop} {H H' H'': MH} {s s' s'': Shared} (x: Gr X H s H' s') (y: Gr X H' s' H'' s''): Gr X H s H'' s'' :=
 ⟨by rw [y.same, x.same], x.ext.trans y.ext⟩
theorem Gr.weaken {X Y: Addr → Prop} {H H': MH} {s s': Shared} (x: Gr X H s H' s') (hxy: ∀ a, X a → Y a): Gr Y H s H' s' := ⟨x.same, x.ext.weaken hxy⟩
theorem Gr.up {Y: Addr → Prop} {H H': MH} {s s': Shared} (x: Gr NoX H s H' s'): Gr Y H s H' s' := x.weaken fun uu h => h.elim
theorem MR.cls {w: World} {h: Heap} {a: Addr} {mo: MO} (x: MR w h a mo): ∃ o, h.get? a = some o ∧ (o.cls = .type "list" ∨ o.cls = .type "dict") := by
 cases mo with
 | list xs => obtain ⟨vals, ⟨n, e⟩, uu⟩ := x; exact ⟨_, e, .inl rfl⟩
 | poly p => obtain ⟨xs, ⟨o, es, ep, e, hx, uu⟩, uu⟩ := x; exact ⟨o, e, .inr hx.1⟩
theorem HS.tupKeep {w: World} {B: Heap} {fr: List Env} {H H': MH} {s: Shared} {h': Heap} {X: Addr → Prop} (S: HS w B fr H s) (x: Ext X H s.heap H' h')
  (hX: ∀ a o, X a → s.heap.get? a = some o → ∀ xs n, o.data ≠ .seq xs n): TupKeep s.heap h' := by
 rintro a o e hc ⟨xs, n, hd⟩
 refine x.keep a o e ?_ (fun q => hX a o q e xs n hd) (by rw [hc]; decide)
 cases q: H.o a with
 | none => rfl
 | some mo =>
  obtain ⟨o', e', c'⟩ := (S.rep a mo q).cls
  rw [e] at e'; cases e'
  rcases c' with c' | c' <;> rw [hc] at c' <;> exact absurd c' (by decide)
theorem HS.vr {w: World} {B: Heap} {fr: List Env} {H H': MH} {s s': Shared} (S: HS w B fr H s) (g: Gr NoX H s H' s') {v: Value} {x: V} (r: VR s.heap v x): VR s'.heap v x :=
 VR.mono' (S.tupKeep g.ext fun uu uu q => q.elim) r
theorem HS.vrs {w: World} {B: Heap} {fr: List Env} {H H': MH} {s s': Shared} (S: HS w B fr H s) (g: Gr NoX H s H' s') {v: List Value} {x: List V} (r: VRs s.heap v x): VRs s'.heap v x :=
 VRs.mono' (S.tupKeep g.ext fun uu uu q => q.elim) r
structure AOk0 (d: Nat) (fr: List Env) (A: Around): Prop where
 handled: A.handled = none
 frames: A.frames = some fr
 depth: A.depth + d ≤ 800
 units: A.units + 4 * d ≤ 9000
noncomputable def GoodHead: List Env → Prop
 | [] => False
 | e :: _ => e.scope.isGenerator = false ∧ e.scope.isCoroutine = false ∧ e.builtins = builtinsNs ∧ e.globals = mainGlobals
structure AOk (d: Nat) (fr: List Env) (A: Around): Prop extends AOk0 d fr A where
 head: GoodHead fr
theorem AOk.in1 {d: Nat} {fr: List Env} {A: Around} (x: AOk (d + 1) fr A): AOk d fr A.in1 :=
 ⟨⟨x.handled, x.frames, by have := x.depth; show A.depth + d ≤ 800; exact Nat.le_of_lt ‹_›, by have := x.units; show A.units + 1 + 4 * d ≤ 9000; omega⟩, x.head⟩
theorem AOk0.deeper {d: Nat} {fr: List Env} {A: Around} (env: Env) (x: AOk0 (d + 1) fr A) (g: GoodHead (env :: fr)): AOk d (env :: fr) (A.deeper env) :=
 ⟨⟨x.handled, by show A.frames.map _ = _; rw [x.frames]; rfl, by have := x.depth; rw [depth_deeper]; omega, by have := x.units; rw [units_deeper]; omega⟩, g⟩
theorem AOk.room {d: Nat} {fr: List Env} {A: Around} (x: AOk d fr A): A.units < cLine := by have := x.units; rw [cLine_is]; omega
theorem AOk.room1 {d: Nat} {fr: List Env} {A: Around} (x: AOk d fr A): A.in1.units < cLine := by have := x.units; rw [cLine_is, Around.in1_units]; omega
theorem AOk.le {d d': Nat} {fr: List Env} {A: Around} (x: AOk d fr A) (h: d' ≤ d): AOk d' fr A :=
 ⟨⟨x.handled, x.frames, by have := x.depth; omega, by have := x.units; omega⟩, x.head⟩
structure Wd (w: World) (B: Heap): Prop where
 inn: (Internal.heapK w.params).In B
 glob: ∃ mg mb, B.Ns mainGlobals mg ∧ B.Ns builtinsNs mb ∧ ∀ x: Str, x ≠ "__name__" → mb x = bootBuiltins x
 nolimit: B.NoLimit
 seer: B.NoSeer
noncomputable def Own (env: Env) (a: Addr): Prop := a = env.locals ∨ ∃ x, env.cells.lookup x = some a
structure Vars (B: Heap) (env: Env) (ρ: Rho) (H: MH) (h: Heap): Prop where
 hkind: env.scope.kind = .function
 hglob: env.globals = mainGlobals
 hblt: env.builtins = builtinsNs
 ns: ∃ m: Str → Option Value, h.Ns env.locals m ∧ ∀ x v, ρ x = some v → ∃ val, VR h val v ∧
  ((env.kindOf x = some .local ∧ m x = some val) ∨ ((env.kindOf x = some .cell ∨ env.kindOf x = some .free) ∧ ∃ c, env.cells.lookup x = some c ∧ h.IsCell c (some val)))
 cells: ∀ x c, env.cells.lookup x = some c → ∃ ov, h.IsCell c ov
 apart: env.cells.Pairwise fun x y => x.2 ≠ y.2
 own: ∀ a, Own env a → H.o a = none ∧ B.get? a = none
theorem Ns.fk {h h': Heap} {a: Addr} {m: Str → Option Value} (x: h.Ns a m) (k: ∀ o, h.get? a = some o → ∃ o', h'.get? a = some o' ∧ o'.data = o.data ∧ o'.cls = o.cls): h'.Ns a m := by
 obtain ⟨o, es, ep, ho, hd, r⟩ := x
 obtain ⟨o', e', d', uu⟩ := k o ho
 exact ⟨o', es, ep, e', d'.trans hd, r⟩
theorem IsCell.fk {h h': Heap} {a: Addr} {v: Option Value} (x: h.IsCell a v) (k: ∀ o, h.get? a = some o → ∃ o', h'.get? a = some o' ∧ o'.data = o.data ∧ o'.cls = o.cls): h'.IsCell a v := by
 obtain ⟨o, ho, hd⟩ := x
 obtain ⟨o', e', d', uu⟩ := k o ho
 exact ⟨o', e', d'.trans hd⟩
theorem Vars.gr {w: World} {B: Heap} {fr: List Env} {env: Env} {ρ: Rho} {H H': MH} {s s': Shared} (W: Vars B env ρ H s.heap) (S: HS w B fr H s) (g: Gr NoX H s H' s'): Vars B env ρ H' s'.heap := by
 have fk: ∀ a, Own env a → ∀ o, s.heap.get? a = some o → ∃ o', s'.heap.get? a = some o' ∧ o'.data = o.data ∧ o'.cls = o.cls := fun a ha o e => g.ext.fkeep a o e (W.own a ha).1 id
 have ol: Own env env.locals := .inl rfl
 have oc: ∀ x c, env.cells.lookup x = some c → Own env c := fun x c e => .inr ⟨x, e⟩
 refine ⟨W.hkind, W.hglob, W.hblt,?_, fun x c hm => ?_, W.apart, fun a ha => ⟨?_, (W.own a ha).2⟩⟩
 ·obtain ⟨m, hm, hv⟩ := W.ns
  refine ⟨m, Ns.fk hm (fk _ ol), fun x v e => ?_⟩
  obtain ⟨val, r, q⟩ := hv x v e
  refine ⟨val, S.vr g r,?_⟩
  rcases q with q | ⟨k, c, hc, hi⟩
  ·exact .inl q
  ·exact .inr ⟨k, c, hc, IsCell.fk hi (fk _ (oc x c hc))⟩
 ·obtain ⟨ov, hi⟩ := W.cells x c hm
  exact ⟨ov, IsCell.fk hi (fk _ (.inr ⟨x, hm⟩))⟩
 ·have n := (W.own a ha).1
  rcases ha with rfl | ⟨x, hx⟩
  ·obtain ⟨m, ⟨o, uu, uu, e, uu⟩, uu⟩ := W.ns; exact g.ext.none' e n
  ·obtain ⟨ov, o, e, uu⟩ := W.cells x a hx; exact g.ext.none' e n
section
variable (w: World) (B: Heap)
noncomputable def Ev (env: Env) (d: Nat) (e: Expr) (ρ: Rho) (H: MH) (Q: V → MH → Prop): Prop :=
 ∀ (A: Around) (fr: List Env) (s: Shared) (E Q': Value → Shared → Prop), AOk d fr A → HS w B fr H s → Vars B env ρ H s.heap →
  (∀ val v H' s', Gr NoX H s H' s' → HS w B fr H' s' → VR s'.heap val v → Q v H' → Q' val s') →
  wpAny (model prg w) A (eval e env) Q' E s
noncomputable def Tr (d: Nat) (t: Sem Value) (H: MH) (s: Shared) (Q: V → MH → Prop): Prop :=
 ∀ (A: Around) (fr: List Env) (E Q': Value → Shared → Prop), AOk d fr A → HS w B fr H s →
  (∀ val v H' s', Gr NoX H s H' s' → HS w B fr H' s' → VR s'.heap val v → Q v H' → Q' val s') →
  wpAny (model prg w) A t Q' E s
noncomputable def Bin (d: Nat) (op: Operator) (x y: V) (H: MH) (Q: V → MH → Prop): Prop :=
 ∀ (s: Shared) (a b: Value), VR s.heap a x → VR s.heap b y → Tr w B d (binaryOp op a b) H s Q
noncomputable def Cmp (d: Nat) (op: CmpOp) (x y: V) (H: MH) (Q: V → MH → Prop): Prop :=
 ∀ (s: Shared) (a b: Value), VR s.heap a x → VR s.heap b y → Tr w B d (compareOp op a b) H s Q
noncomputable def Itm (d: Nat) (x y: V) (H: MH) (Q: V → MH → Prop): Prop :=
 ∀ (s: Shared) (a b: Value), VR s.heap a x → VR s.heap b y → Tr w B d (getItem a b) H s Q
noncomputable def Cal (d: Nat) (f: Value) (xs: List V) (H: MH) (Q: V → MH → Prop): Prop :=
 ∀ (s: Shared) (vs: List Value), VRs s.heap vs xs → Tr w B d (call f vs) H s Q
end
theorem Ev.mono {w: World} {B: Heap} {env: Env} {d: Nat} {e: Expr} {ρ: Rho} {H: MH} {Q Q₁: V → MH → Prop} (h: Ev w B env d e ρ H Q) (hq: ∀ v H', Q v H' → Q₁ v H'): Ev w B env d e ρ H Q₁ :=
 fun A fr s E Q' a S W k => h A fr s E Q' a S W fun val v H' s' g S' r q => k val v H' s' g S' r (hq v H' q)
theorem Tr.mono {w: World} {B: Heap} {d: Nat} {t: Sem Value} {H: MH} {s: Shared} {Q Q₁: V → MH → Prop} (h: Tr w B d t H s Q) (hq: ∀ v H', Q v H' → Q₁ v H'): Tr w B d t H s Q₁ :=
 fun A fr E Q' a S k => h A fr E Q' a S fun val v H' s' g S' r q => k val v H' s' g S' r (hq v H' q)
theorem Cal.mono {w: World} {B: Heap} {d: Nat} {f: Value} {xs: List V} {H: MH} {Q Q₁: V → MH → Prop} (h: Cal w B d f xs H Q) (hq: ∀ v H', Q v H' → Q₁ v H'): Cal w B d f xs H Q₁ :=
 fun s vs r => (h s vs r).mono hq
theorem Cal.le {w: World} {B: Heap} {d d': Nat} {f: Value} {xs: List V} {H: MH} {Q: V → MH → Prop} (h: Cal w B d f xs H Q) (hd: d ≤ d'): Cal w B d' f xs H Q :=
 fun s vs r A fr E Q' a S k => h s vs r A fr E Q' (a.le hd) S k
end Mine.Internal
end
section
open PySem PySem.W PySem.Calls PyProof.Rows
namespace Mine.Internal
noncomputable def MH.set (H: MH) (a: Addr) (mo: MO): MH := ⟨fun b => if b = a then some mo else H.o b, fun b => if b = a then H.ver b + 1 else H.ver b⟩
theorem MH.set_self (H: MH) (a: Addr) (mo: MO): (H.set a mo).o a = some mo := by simp [MH.set]
theorem MH.set_ne (H: MH) {a b: Addr} (mo: MO) (h: b ≠ a): (H.set a mo).o b = H.o b := by simp [MH.set, h]
theorem MH.ver_ne (H: MH) {a b: Addr} (mo: MO) (h: b ≠ a): (H.set a mo).ver b = H.ver b := by simp [MH.set, h]
theorem MH.ver_self (H: MH) (a: Addr) (mo: MO): (H.set a mo).ver a = H.ver a + 1 := by simp [MH.set]
theorem MH.ver_le (H: MH) (a b: Addr) (mo: MO): H.ver b ≤ (H.set a mo).ver b := by simp only [MH.set]; split <;> lia
theorem MH.set_ne' {H: MH} {a b: Addr} {mo x: MO} (n: H.o a = none) (e: H.o b = some x): (H.set a mo).o b = some x := by
 rw [MH.set_ne H mo (fun q => by rw [q, n] at e; exact nsF e), e]
theorem MR.fr {w: World} {h h': Heap} {a: Addr} {mo: MO} (x: MR w h a mo) (ka: ∀ o, h.get? a = some o → h'.get? a = some o) (kt: TupKeep h h'): MR w h' a mo := by
 cases mo with
 | list xs => obtain ⟨vals, ⟨n, e⟩, r⟩ := x; exact ⟨vals, ⟨n, ka _ e⟩, VRs.mono' kt r⟩
 | poly p =>
  obtain ⟨xs, ⟨o, es, ep, e, h1, h2, h3, h4, h5⟩, r⟩ := x
  refine ⟨xs, ⟨o, es, ep, ka _ e, h1, h2, h3, fun y hy => ?_, h5⟩, r.mono fun a b q => ⟨q.1, VR.mono' kt q.2.1, VR.mono' kt q.2.2⟩⟩
  obtain ⟨o', items, n, e', hc, hd, hi⟩ := h4 y hy
  exact ⟨o', items, n, kt _ _ e' hc ⟨_, _, hd⟩, hc, hd, hi⟩
noncomputable abbrev Keep (h h': Heap): Prop := ∀ b o, h.get? b = some o → h'.get? b = some o
theorem Keep.tup {h h': Heap} (k: Keep h h'): TupKeep h h' := fun a o e uu uu => k a o e
theorem Keep.push (h: Heap) (o: Obj): Keep h (h.push o) := fun uu uu e => Heap.get?_push_of_some o e
theorem Keep.trans {h h' h'': Heap} (a: Keep h h') (b: Keep h' h''): Keep h h'' := fun x o e => b x o (a x o e)
theorem Keep.refl (h: Heap): Keep h h := fun uu uu e => e
theorem Ext.of_keep {X: Addr → Prop} {H: MH} {h h': Heap} (k: Keep h h') (hs: h.objs.size ≤ h'.objs.size): Ext X H h H h' :=
 ⟨fun b o e uu uu uu => k b o e, fun b o e uu uu => ⟨o, k b o e, rfl, rfl⟩, fun uu e => e, fun uu => Nat.le_refl _, fun b o e uu uu => k b o e, fun uu e => .inl e, hs⟩
theorem FunFrames.keep {B h h': Heap} {fr: List Env} (x: h.FunFrames B fr) (k: Keep h h'): h'.FunFrames B fr := x.of_keeps fun b o e uu => ⟨o, k b o e, rfl⟩
section
variable {w: World} {B: Heap} {fr: List Env} {H: MH} {s: Shared}
theorem HS.keep (S: HS w B fr H s) {h': Heap} {t: Nat} (k: Keep s.heap h') (hs: s.heap.objs.size ≤ h'.objs.size): HS w B fr H { s with heap := h', toks := t } :=
 ⟨fun b o e => k b o (S.base b o e), S.sep, fun a mo e => (S.rep a mo e).fr (fun o q => k a o q) (Keep.tup k), FunFrames.keep S.frs k, S.frsep, fun env he L hL => let ⟨o, e, c⟩ := S.frc env he L hL; ⟨o, k L o e, c⟩, fun a e => Nat.lt_of_lt_of_le (S.lt a e) hs, Nat.lt_of_lt_of_le S.low.1 hs, S.low.2⟩
theorem HS.tok (S: HS w B fr H s) (t: Nat): HS w B fr H { s with toks := t } := S.keep (Keep.refl _) (Nat.le_refl _)
theorem Gr.keep {X: Addr → Prop} {h': Heap} {t: Nat} (k: Keep s.heap h') (hs: s.heap.objs.size ≤ h'.objs.size): Gr X H s H { s with heap := h', toks := t } := ⟨rfl, .of_keep k hs⟩
theorem Gr.tok {X: Addr → Prop} (t: Nat): Gr X H s H { s with toks := t } := Gr.keep (Keep.refl _) (Nat.le_refl _)
theorem HS.fresh (S: HS w B fr H s): H.o s.heap.objs.size = none := by
 cases q: H.o s.heap.objs.size with
 | none => rfl
 | some mo => exact absurd (S.lt _ (by rw [q]; simp)) (Nat.lt_irrefl _)
theorem HS.bfresh (S: HS w B fr H s) {a: Addr} (ha: s.heap.objs.size ≤ a): B.get? a = none := by
 cases q: B.get? a with
 | none => rfl
 | some o => exact absurd (Heap.lt_size (S.base a o q)) (Nat.not_lt.mpr ha)
theorem HS.new (S: HS w B fr H s) {h': Heap} {t: Nat} {a: Addr} {mo: MO} (k: Keep s.heap h') (hs: s.heap.objs.size ≤ h'.objs.size) (ha: s.heap.objs.size ≤ a) (hr: MR w h' a mo) :
  HS w B fr (H.set a mo) { s with heap := h', toks := t } := by
 have S' := S.keep (t := t) k hs
 refine ⟨S'.base, fun b e => ?_, fun b m e => ?_, S'.frs, fun env he L hL => ?_, S'.frc, fun b e => ?_, S'.low.1, fun b e => ?_⟩
 ·by_cases q: b = a
  ·subst q; exact S.bfresh ha
  ·rw [MH.set_ne H mo q] at e; exact S'.sep b e
 ·by_cases q: b = a
  ·subst q; rw [MH.set_self] at e; obtain rfl := Option.some.inj e; exact hr
  ·rw [MH.set_ne H mo q] at e; exact S'.rep b m e
 ·have := S'.frsep env he L hL
  rw [MH.set_ne H mo]; exact this
  rintro rfl
  obtain ⟨L', o, hL', ho⟩: ∃ L' o, env.frame = some L' ∧ s.heap.get? L' = some o := by
   have: ∀ {l: List Env}, s.heap.FunFrames B l → env ∈ l → ∃ L' o, env.frame = some L' ∧ s.heap.get? L' = some o := by
    intro l
    induction l with
    | nil => intro uu hm; cases hm
    | cons e r ih =>
     intro hl hm
     obtain ⟨uu, ⟨L1, o1, f1, uu, g1, uu⟩, hr'⟩ := hl
     rcases List.mem_cons.mp hm with rfl | hm
     ·exact ⟨L1, o1, f1, g1⟩
     ·exact ih hr' hm
   exact this S.frs he
  rw [hL] at hL'; obtain rfl := Option.some.inj hL'
  exact absurd (Heap.lt_size ho) (Nat.not_lt.mpr ha)
 ·by_cases q: b = a
  ·subst q
   obtain ⟨o, e', uu⟩ := hr.cls
   exact Heap.lt_size e'
  ·rw [MH.set_ne H mo q] at e; exact S'.lt b e
 ·by_cases q: b = a
  ·subst q; exact Nat.lt_of_lt_of_le S.low.1 ha
  ·rw [MH.set_ne H mo q] at e; exact S'.low.2 b e
theorem Gr.new {X: Addr → Prop} {h': Heap} {t: Nat} {a: Addr} {mo: MO} (k: Keep s.heap h') (hs: s.heap.objs.size ≤ h'.objs.size) (ha: s.heap.objs.size ≤ a) :
  Gr X H s (H.set a mo) { s with heap := h', toks := t } :=
 by
 refine ⟨rfl, fun b o e uu uu uu => k b o e, fun b o e uu uu => ⟨o, k b o e, rfl, rfl⟩, fun b e => ?_, fun b => MH.ver_le .., fun b o e uu uu => k b o e, fun b e => ?_, hs⟩
 ·by_cases q: b = a
  ·subst q; rw [MH.set_self]; simp
  ·rw [MH.set_ne H mo q]; exact e
 ·by_cases q: b = a
  ·subst q; exact .inr ha
  ·rw [MH.set_ne H mo q] at e; exact .inl e
theorem HS.upd (S: HS w B fr H s) {h': Heap} {t: Nat} {a: Addr} {mo mo': MO} (ha: H.o a = some mo) (sb: Heap.SameBut a s.heap h') (hr: TupKeep s.heap h' → MR w h' a mo') :
  HS w B fr (H.set a mo') { s with heap := h', toks := t } := by
 obtain ⟨oa, ea, ca⟩ := (S.rep a mo ha).cls
 have hne: H.o a ≠ none := by rw [ha]; simp
 have kt: TupKeep s.heap h' := fun b o e hc uu => (sb.2 b (fun q => by subst q; rw [ea] at e; obtain rfl := Option.some.inj e; rw [hc] at ca; rcases ca with ca | ca <;> exact absurd ca (by decide))).trans e
 refine ⟨fun b o e => ?_, fun b e => ?_, fun b m e => ?_,?_, fun env he L hL => ?_, fun env he L hL => let ⟨o, e, c⟩ := S.frc env he L hL; ⟨o, (sb.2 L fun q => hne (q ▸ S.frsep env he L hL)).trans e, c⟩, fun b e => ?_,?_, fun b e => ?_⟩
 ·exact (sb.2 b fun q => by subst q; rw [S.sep b hne] at e; exact nsF e).trans (S.base b o e)
 ·by_cases q: b = a
  ·subst q; exact S.sep b hne
  ·rw [MH.set_ne H mo' q] at e; exact S.sep b e
 ·by_cases q: b = a
  ·subst q; rw [MH.set_self] at e; obtain rfl := Option.some.inj e; exact hr kt
  ·rw [MH.set_ne H mo' q] at e; exact (S.rep b m e).fr (fun o e' => (sb.2 b q).trans e') kt
 ·have fs := S.frsep
  have: ∀ {l: List Env}, s.heap.FunFrames B l → (∀ env ∈ l, ∀ L, env.frame = some L → H.o L = none) → h'.FunFrames B l := by
   intro l
   induction l with
   | nil => intro uu uu; trivial
   | cons e r ih =>
    rintro ⟨p1, ⟨L1, o1, f1, n1, g1, d1⟩, hr'⟩ hs'
    refine ⟨p1, ⟨L1, o1, f1, n1, (sb.2 L1 fun q => ?_).trans g1, d1⟩, ih hr' fun env he => hs' env (.tail _ he)⟩
    have := hs' e (.head _) L1 f1
    rw [q] at this; exact hne this
  exact this S.frs fs
 ·have := S.frsep env he L hL
  rw [MH.set_ne H mo']; exact this
  rintro rfl; exact hne this
 ·show b < h'.objs.size
  rw [sb.1]
  by_cases q: b = a
  ·subst q; exact S.lt b hne
  ·rw [MH.set_ne H mo' q] at e; exact S.lt b e
 ·show sysModules < h'.objs.size
  rw [sb.1]; exact S.low.1
 ·by_cases q: b = a
  ·subst q; exact S.low.2 b hne
  ·rw [MH.set_ne H mo' q] at e; exact S.low.2 b e
theorem Gr.upd {X: Addr → Prop} {h': Heap} {t: Nat} {a: Addr} {mo mo': MO} (ha: H.o a = some mo) (sb: Heap.SameBut a s.heap h'): Gr X H s (H.set a mo') { s with heap := h', toks := t } := by
 have hne: ∀ b, H.o b = none → b ≠ a := fun b e q => by subst q; rw [ha] at e; exact snF e
 refine ⟨rfl, fun b o e n uu uu => (sb.2 b (hne b n)).trans e, fun b o e n uu => ⟨o, (sb.2 b (hne b n)).trans e, rfl, rfl⟩, fun b e => ?_, fun b => MH.ver_le .., fun b o e uu q => ?_, fun b e => .inl ?_, Nat.le_of_eq sb.1.symm⟩
 ·by_cases q: b = a
  ·subst q; rw [MH.set_self]; simp
  ·rw [MH.set_ne H mo' q]; exact e
 ·exact (sb.2 b fun qq => by subst qq; rw [MH.ver_self] at q; lia).trans e
 ·by_cases q: b = a
  ·subst q; rw [ha]; simp
  ·rw [MH.set_ne H mo' q] at e; exact e
end
section
variable {w: World} {B: Heap} {env: Env} {d: Nat} {ρ: Rho} {H: MH} {Q: V → MH → Prop}
theorem Ei {i: Int} {k: Nat} {pos: Pos} (h: Q (.int i) H): Ev w B env d (.Constant (.int i) k pos) ρ H Q :=
 fun uu uu uu uu uu uu S uu K => wpAny_Constant_int (K _ _ _ _ (Gr.tok _) (S.tok _) (.int ..) h)
theorem Ev.const_str {x: Str} {k: Nat} {pos: Pos} (h: Q (.str x) H): Ev w B env d (.Constant (.str x) k pos) ρ H Q :=
 fun uu uu uu uu uu uu S uu K => wpAny_Constant_str (K _ _ _ _ (Gr.tok _) (S.tok _) (.str ..) h)
theorem Ev.const_none {k: Nat} {pos: Pos} (h: Q .none H): Ev w B env d (.Constant .none k pos) ρ H Q :=
 fun uu uu uu uu uu uu S uu K => wpAny_Constant_none (K _ _ _ _ (Gr.refl ..) S .none h)
theorem Ev.const_bool {b: Bool} {k: Nat} {pos: Pos} (h: Q (.bool b) H): Ev w B env d (.Constant (.bool b) k pos) ρ H Q :=
 fun uu uu uu uu uu uu S uu K => wpAny_Constant_bool (K _ _ _ _ (Gr.refl ..) S (.bool b) h)
theorem Em {x: Str} {pos: Pos} {v: V} (hv: ρ x = some v) (h: Q v H) (hd: (x == ("__debug__": Str)) = false := by decide) (hc: (x == ("__classdict__": Str)) = false := by decide) :
  Ev w B env d (.Name x pos) ρ H Q := by
 intro A fr s E Q' a S W K
 obtain ⟨m, hm, hs⟩ := W.ns
 obtain ⟨val, r, q⟩ := hs x v hv
 have k := K val v H s (Gr.refl ..) S r h
 rcases q with ⟨k1, k2⟩ | ⟨k1 | k1, c, k2, k3⟩
 ·exact wpAny_Name (wpAny_loadName_local W.hkind k1 hm k2 k) hd
 ·exact wpAny_Name (wpAny_loadName_cell W.hkind k1 k2 k3 k) hd
 ·exact wpAny_Name (wpAny_loadName_free W.hkind k1 k2 k3 k hc) hd
theorem global_raw {x: Str} {pos: Pos} {val: Value} {A: Around} {s: Shared} {E Q': Value → Shared → Prop} (D: Wd w B) (hb: ∀ b o, B.get? b = some o → s.heap.get? b = some o) (W: Vars B env ρ H s.heap)
  (e: nsIn (Internal.heapK w.params) mainGlobals x = some (some val)) (hx: env.kindOf x = some .globalImplicit) (h: Q' val s) (hd: (x == ("__debug__": Str)) = false := by decide) :
  wpAny (model prg w) A (eval (.Name x pos) env) Q' E s := by
 obtain ⟨mg, mb, g, b, uu⟩ := D.glob
 exact Name_function_global W.hkind hx (loadGlobal_global (mg := mg) (by rw [W.hglob]; exact g.keeps hb) (mg_of D.inn g e) h) hd
theorem builtin_raw {x: Str} {pos: Pos} {val: Value} {A: Around} {s: Shared} {E Q': Value → Shared → Prop} (D: Wd w B) (hb: ∀ b o, B.get? b = some o → s.heap.get? b = some o) (W: Vars B env ρ H s.heap)
  (e: nsIn (Internal.heapK w.params) mainGlobals x = some none) (hv: bootBuiltins x = some val) (hn: x ≠ "__name__") (hx: env.kindOf x = some .globalImplicit) (h: Q' val s) (hd: (x == ("__debug__": Str)) = false := by decide) :
  wpAny (model prg w) A (eval (.Name x pos) env) Q' E s := by
 obtain ⟨mg, mb, g, b, hbb⟩ := D.glob
 exact Name_function_global W.hkind hx (loadGlobal_builtin (mg := mg) (mb := mb) (by rw [W.hglob]; exact g.keeps hb) (mg_none_of D.inn g e) (by rw [W.hblt]; exact b.keeps hb) ((hbb x hn).trans hv) h) hd
end
end Mine.Internal
end
section
open PySem PySem.W PySem.Calls PyProof.Rows
namespace Mine.Internal
noncomputable def noStar: Expr → Bool
 | .Starred .. => false
 | _ => true
theorem starEach_plain {e: Expr} {rest: List Expr} {env: Env} (h: noStar e = true): starEach (e :: rest) env = (false, eval e env) :: starEach rest env := by
 cases e <;> first | rfl | cases h
theorem starEach_any {es: List Expr} {env: Env} {pos: Pos} (h: es.all noStar = true): (backTo pos (starEach es env)).any (·.1) = false := by
 induction es with
 | nil => rfl
 | cons e r ih =>
  rw [List.all_cons, Bool.and_eq_true] at h
  rw [starEach_plain h.1]
  exact ih h.2
section
variable (w: World) (B: Heap)
noncomputable def Evs (env: Env) (d: Nat): List Expr → Rho → MH → (List V → MH → Prop) → Prop
 | [], _, H, Q => Q [] H
 | e :: r, ρ, H, Q => Ev w B env d e ρ H fun v H1 => Evs env d r ρ H1 fun vs H2 => Q (v :: vs) H2
noncomputable def Ts (env: Env) (d: Nat) (e: Expr) (ρ: Rho) (H: MH) (Q: Bool → MH → Prop): Prop :=
 ∀ (A: Around) (fr: List Env) (s: Shared) (E: Value → Shared → Prop) (Q': Bool → Shared → Prop), AOk d fr A → HS w B fr H s → Vars B env ρ H s.heap →
  (∀ b H' s', Gr NoX H s H' s' → HS w B fr H' s' → Q b H' → Q' b s') →
  wpAny (model prg w) A (isTrue e env (eval e env)) Q' E s
noncomputable def Tt (d: Nat) (x: V) (H: MH) (Q: Bool → MH → Prop): Prop :=
 ∀ (A: Around) (fr: List Env) (s: Shared) (a: Value) (E: Value → Shared → Prop) (Q': Bool → Shared → Prop), AOk d fr A → HS w B fr H s → VR s.heap a x →
  (∀ b H' s', Gr NoX H s H' s' → HS w B fr H' s' → Q b H' → Q' b s') →
  wpAny (model prg w) A (truthy a) Q' E s
noncomputable def Al (env: Env) (d: Nat) (op: BoolOp) (es: List Expr) (ρ: Rho) (H: MH) (Q: Bool → MH → Prop): Prop :=
 ∀ (A: Around) (fr: List Env) (s: Shared) (E: Value → Shared → Prop) (Q': Bool → Shared → Prop), AOk d fr A → HS w B fr H s → Vars B env ρ H s.heap →
  (∀ b H' s', Gr NoX H s H' s' → HS w B fr H' s' → Q b H' → Q' b s') →
  wpAny (model prg w) A (allTrue op es env) Q' E s
noncomputable def Iti (d: Nat) (x y: V) (H: MH) (Q: V → MH → Prop): Prop :=
 ∀ (s: Shared) (a b: Value), VR s.heap a x → VR s.heap b y → ∀ (value slice: Expr), subscripted slice false a b = operate [a, b] (getItem a b) → Tr w B d (subscriptTail value slice a b) H s Q
noncomputable def Un (d: Nat) (op: UnaryOp) (x: V) (H: MH) (Q: V → MH → Prop): Prop :=
 ∀ (s: Shared) (a: Value), VR s.heap a x → Tr w B d (unaryOp op a) H s Q
end
section
variable {w: World} {B: Heap} {env: Env} {d: Nat} {ρ: Rho} {H: MH}
theorem Evs.run: ∀ {es: List Expr} {H: MH} {Q: List V → MH → Prop} {pos: Pos}, es.all noStar = true → Evs w B env d es ρ H Q →
  ∀ {A: Around} {fr: List Env} {s: Shared} {E: Value → Shared → Prop} {Q': List Value → Shared → Prop}, AOk d fr A → HS w B fr H s → Vars B env ρ H s.heap →
  (∀ vals vs H' s', Gr NoX H s H' s' → HS w B fr H' s' → VRs s'.heap vals vs → Q vs H' → Q' vals s') →
  wpAny (model prg w) A (spliced (backTo pos (starEach es env))) Q' E s := by
 intro es
 induction es with
 | nil => intro H Q pos uu h A fr s E Q' a S W K; exact args_nil (K [] [] H s (Gr.refl ..) S .nil h)
 | cons e r ih =>
  intro H Q pos hp h A fr s E Q' a S W K
  rw [List.all_cons, Bool.and_eq_true] at hp
  refine args_cons ?_ (starEach_plain hp.1)
  refine h A fr s E _ a S W fun val v H1 s1 g1 S1 r1 q1 => ?_
  refine ih hp.2 q1 a S1 (W.gr S g1) fun vals vs H2 s2 g2 S2 r2 q2 => ?_
  exact K _ _ _ _ (g1.trans g2) S2 (.cons (S1.vr g2 r1) r2) q2
theorem Evs.mono': ∀ {es: List Expr} {H: MH} {Q Q₁: List V → MH → Prop}, Evs w B env d es ρ H Q → (∀ v H', Q v H' → Q₁ v H') → Evs w B env d es ρ H Q₁ := by
 intro es
 induction es with
 | nil => intro H Q Q1 h hq; exact hq _ _ h
 | cons e r ih => intro H Q Q1 h hq; exact Ev.mono h fun uu uu q => ih q fun uu uu q2 => hq _ _ q2
theorem Evs.length: ∀ {es: List Expr} {H: MH} {Q: List V → MH → Prop}, Evs w B env d es ρ H Q → Evs w B env d es ρ H fun vs H' => vs.length = es.length ∧ Q vs H' := by
 intro es
 induction es with
 | nil => intro H Q h; exact ⟨rfl, h⟩
 | cons e r ih => intro H Q h; exact Ev.mono h fun v H1 q => Evs.mono' (ih q) fun vs H2 q2 => ⟨by simp [q2.1], q2.2⟩
variable {Q: V → MH → Prop}
theorem Ev.tuple {es: List Expr} {k: Nat} {pos: Pos} (h: Evs w B env d es ρ H fun vs H' => Q (.tup vs) H') (hp: es.all noStar = true := by rfl) (hl: es.length ≤ 100 := by decide): Ev w B env d (.Tuple es k pos) ρ H Q := by
 intro A fr s E Q' a S W K
 refine wpAny_Tuple_spliced (Evs.run hp (Evs.length h) a S W fun vals vs H' s' g S' r q => ⟨?_,?_⟩)
 ·rw [r.length, q.1, sizeLine]; exact Nat.le_trans ‹_› (by decide)
 ·have kp := Keep.push s'.heap { cls := .type "tuple", data := .seq vals.toArray }
  refine K _ (.tup vs) H' _ (g.trans (Gr.keep (t := s'.toks) kp (by simp))) (S'.keep (t := s'.toks) kp (by simp)) ?_ q.2
  exact .tup (n := 0) (Heap.get?_push_size _ rfl) (VRs.mono' (Keep.tup kp) r)
theorem Ev.list {es: List Expr} {pos: Pos} (h: Evs w B env d es ρ H fun vs H' => ∀ n, H'.o n = none → Q (.ref n) (H'.set n (.list vs))) (hp: es.all noStar = true := by rfl) (hl: es.length ≤ 100 := by decide): Ev w B env d (.List es pos) ρ H Q := by
 intro A fr s E Q' a S W K
 refine wpAny_List_spliced (Evs.run hp (Evs.length h) a S W fun vals vs H' s' g S' r q => ⟨?_,?_⟩)
 ·rw [r.length, q.1, sizeLine]; exact Nat.le_trans ‹_› (by decide)
 ·have kp := Keep.push s'.heap { cls := .type "list", data := .seq vals.toArray }
  refine K _ (.ref s'.heap.objs.size) (H'.set s'.heap.objs.size (.list vs)) _ (g.trans (Gr.new (t := s'.toks) kp (by simp) (Nat.le_refl _))) (S'.new (t := s'.toks) kp (by simp) (Nat.le_refl _) ?_) (.ref _) (q.2 _ S'.fresh)
  exact ⟨vals, ⟨0, Heap.get?_push_size _ rfl⟩, VRs.mono' (Keep.tup kp) r⟩
theorem Ev.dict0 {pos: Pos} (h: ∀ n, H.o n = none → Q (.ref n) (H.set n (.poly []))): Ev w B env d (.Dict [] [] pos) ρ H Q := by
 intro A fr s E Q' a S W K
 refine wpAny_Dict_empty ?_
 have kp := Keep.push s.heap { cls := .type "dict", data := .dict #[] }
 exact K _ (.ref s.heap.objs.size) (H.set s.heap.objs.size (.poly [])) _ (Gr.new (t := s.toks) kp (by simp) (Nat.le_refl _)) (S.new (t := s.toks) kp (by simp) (Nat.le_refl _) ⟨[], Heap.DictOfH.new _, .nil⟩) (.ref _) (h _ S.fresh)
theorem Ev.bin {l r: Expr} {op: Operator} {pos: Pos} (h: Ev w B env d l ρ H fun x H1 => Ev w B env d r ρ H1 fun y H2 => Bin w B d op x y H2 Q): Ev w B env d (.BinOp l op r pos) ρ H Q := by
 intro A fr s E Q' a S W K
 refine wpAny_BinOp (h A fr s E _ a S W fun v1 x H1 s1 g1 S1 r1 q1 => q1 A fr s1 E _ a S1 (W.gr S g1) fun v2 y H2 s2 g2 S2 r2 q2 => ?_)
 exact q2 s2 v1 v2 (S1.vr g2 r1) r2 A fr E Q' a S2 fun v z H3 s3 g3 S3 r3 q3 => K v z H3 s3 ((g1.trans g2).trans g3) S3 r3 q3
theorem Ev.cmp {l r: Expr} {op: CmpOp} {pos: Pos} (h: Ev w B env d l ρ H fun x H1 => Ev w B env d r ρ H1 fun y H2 => Cmp w B d op x y H2 Q) (hm: behindInMarks op r = false := by with_unfolding_all rfl) :
  Ev w B env d (.Compare l [op] [r] pos) ρ H Q := by
 intro A fr s E Q' a S W K
 refine wpAny_Compare1 (h A fr s E _ a S W fun v1 x H1 s1 g1 S1 r1 q1 => q1 A fr s1 E _ a S1 (W.gr S g1) fun v2 y H2 s2 g2 S2 r2 q2 => ?_) hm
 exact q2 s2 v1 v2 (S1.vr g2 r1) r2 A fr E Q' a S2 fun v z H3 s3 g3 S3 r3 q3 => K v z H3 s3 ((g1.trans g2).trans g3) S3 r3 q3
theorem Ev.un {x: Expr} {op: UnaryOp} {pos: Pos} (h: Ev w B env d x ρ H fun x H1 => Un w B d op x H1 Q): Ev w B env d (.UnaryOp op x pos) ρ H Q := by
 intro A fr s E Q' a S W K
 refine wpAny_UnaryOp (h A fr s E _ a S W fun v1 x H1 s1 g1 S1 r1 q1 => ?_)
 exact q1 s1 v1 r1 A fr E Q' a S1 fun v z H3 s3 g3 S3 r3 q3 => K v z H3 s3 (g1.trans g3) S3 r3 q3
theorem Ev.ifexp {t b o: Expr} {pos: Pos} (h: Ts w B env d t ρ H fun c H1 => if c then Ev w B env d b ρ H1 Q else Ev w B env d o ρ H1 Q): Ev w B env d (.IfExp t b o pos) ρ H Q := by
 intro A fr s E Q' a S W K
 refine wpAny_IfExp (h A fr s E _ a S W fun c H1 s1 g1 S1 q1 => ?_)
 cases c with
 | true => exact q1 A fr s1 E Q' a S1 (W.gr S g1) fun v z H3 s3 g3 S3 r3 q3 => K v z H3 s3 (g1.trans g3) S3 r3 q3
 | false => exact q1 A fr s1 E Q' a S1 (W.gr S g1) fun v z H3 s3 g3 S3 r3 q3 => K v z H3 s3 (g1.trans g3) S3 r3 q3
theorem Ev.sub {value slice: Expr} {pos: Pos} (h: Ev w B env d value ρ H fun x H1 => Ev w B env d slice ρ H1 fun y H2 => Iti w B d x y H2 Q)
  (hs: ∀ o i, subscripted slice false o i = operate [o, i] (getItem o i) := by intro uu uu; rfl): Ev w B env d (.Subscript value slice pos) ρ H Q := by
 intro A fr s E Q' a S W K
 refine Subscript_ (h A fr s E _ a S W fun v1 x H1 s1 g1 S1 r1 q1 => q1 A fr s1 E _ a S1 (W.gr S g1) fun v2 y H2 s2 g2 S2 r2 q2 => ?_)
 exact q2 s2 v1 v2 (S1.vr g2 r1) r2 value slice (hs _ _) A fr E Q' a S2 fun v z H3 s3 g3 S3 r3 q3 => K v z H3 s3 ((g1.trans g2).trans g3) S3 r3 q3
theorem Ev.and2 {x y: Expr} {pos: Pos} (h: Ev w B env d x ρ H fun v H1 => Tt w B d v H1 fun b H2 => if b then Ev w B env d y ρ H2 Q else Q v H2): Ev w B env d (.BoolOp .And [x, y] pos) ρ H Q := by
 intro A fr s E Q' a S W K
 refine wpAny_And2 (h A fr s E _ a S W fun v1 x H1 s1 g1 S1 r1 q1 => q1 A fr s1 v1 E _ a S1 r1 fun b H2 s2 g2 S2 q2 => ?_)
 cases b with
 | true => exact q2 A fr s2 E Q' a S2 ((W.gr S g1).gr S1 g2) fun v z H3 s3 g3 S3 r3 q3 => K v z H3 s3 ((g1.trans g2).trans g3) S3 r3 q3
 | false => exact K _ _ _ _ (g1.trans g2) S2 (S1.vr g2 r1) q2
theorem Ts.cmp {Q: Bool → MH → Prop} {l r: Expr} {op: CmpOp} {pos: Pos} (h: Ev w B env d l ρ H fun x H1 => Ev w B env d r ρ H1 fun y H2 => Cmp w B d op x y H2 fun z H3 => ∃ b, z = .bool b ∧ Q b H3)
  (hm: behindInMarks op r = false := by with_unfolding_all rfl): Ts w B env d (.Compare l [op] [r] pos) ρ H Q := by
 intro A fr s E Q' a S W K
 refine wpAny_isTrue_Compare1 (h A fr s E _ a S W fun v1 x H1 s1 g1 S1 r1 q1 => q1 A fr s1 E _ a S1 (W.gr S g1) fun v2 y H2 s2 g2 S2 r2 q2 => ?_) hm
 refine q2 s2 v1 v2 (S1.vr g2 r1) r2 A fr E _ a S2 fun v z H3 s3 g3 S3 r3 q3 => ?_
 obtain ⟨b, rfl, q⟩ := q3
 obtain rfl := r3.ibool
 exact wpAny_truthy_bool (K b H3 s3 ((g1.trans g2).trans g3) S3 q)
theorem Ts.not {Q: Bool → MH → Prop} {x: Expr} {pos: Pos} (h: Ts w B env d x ρ H fun b H1 => Q (!b) H1): Ts w B env d (.UnaryOp .Not x pos) ρ H Q := by
 intro A fr s E Q' a S W K
 exact isTrue_not (h A fr s E _ a S W fun b H1 s1 g1 S1 q1 => K _ _ _ g1 S1 q1)
theorem Ts.bool {Q: Bool → MH → Prop} {op: BoolOp} {es: List Expr} {pos: Pos} (h: Al w B env d op es ρ H Q): Ts w B env d (.BoolOp op es pos) ρ H Q := by
 intro A fr s E Q' a S W K
 exact wpAny_isTrue_BoolOp (h A fr s E Q' a S W K)
theorem Ts.val {Q: Bool → MH → Prop} {e: Expr} (h: Ev w B env d e ρ H fun v H1 => Tt w B d v H1 Q) (he: ∀ whole, isTrue e env whole = (do let v ← whole; standAt e.pos; holding [v] (truthy v)) := by intro uu; rfl): Ts w B env d e ρ H Q := by
 intro A fr s E Q' a S W K
 refine isTrue_plain (h A fr s E _ a S W fun v1 x H1 s1 g1 S1 r1 q1 => ?_) (he _)
 exact q1 A fr s1 v1 E Q' a S1 r1 fun b H2 s2 g2 S2 q2 => K b H2 s2 (g1.trans g2) S2 q2
theorem Al.and_nil {Q: Bool → MH → Prop} (h: Q true H): Al w B env d .And [] ρ H Q := fun uu uu uu uu uu uu S uu K => wpAny_allTrue_And_nil (K _ _ _ (Gr.refl ..) S h)
theorem Al.or_nil {Q: Bool → MH → Prop} (h: Q false H): Al w B env d .Or [] ρ H Q := fun uu uu uu uu uu uu S uu K => wpAny_allTrue_Or_nil (K _ _ _ (Gr.refl ..) S h)
theorem Al.and_cons {Q: Bool → MH → Prop} {x: Expr} {r: List Expr} (h: Ts w B env d x ρ H fun b H1 => if b then Al w B env d .And r ρ H1 Q else Q false H1): Al w B env d .And (x :: r) ρ H Q := by
 intro A fr s E Q' a S W K
 refine wpAny_allTrue_And_cons (h A fr s E _ a S W fun b H1 s1 g1 S1 q1 => ?_)
 cases b with
 | true => exact q1 A fr s1 E Q' a S1 (W.gr S g1) fun b H2 s2 g2 S2 q2 => K b H2 s2 (g1.trans g2) S2 q2
 | false => exact K _ _ _ g1 S1 q1
theorem Al.or_cons {Q: Bool → MH → Prop} {x: Expr} {r: List Expr} (h: Ts w B env d x ρ H fun b H1 => if b then Q true H1 else Al w B env d .Or r ρ H1 Q): Al w B env d .Or (x :: r) ρ H Q := by
 intro A fr s E Q' a S W K
 refine wpAny_allTrue_Or_cons (h A fr s E _ a S W fun b H1 s1 g1 S1 q1 => ?_)
 cases b with
 | true => exact K _ _ _ g1 S1 q1
 | false => exact q1 A fr s1 E Q' a S1 (W.gr S g1) fun b H2 s2 g2 S2 q2 => K b H2 s2 (g1.trans g2) S2 q2
theorem Tt.bool {Q: Bool → MH → Prop} {b: Bool} (h: Q b H): Tt w B d (.bool b) H Q := fun uu uu uu uu uu uu uu S r K => by obtain rfl := r.ibool; exact wpAny_truthy_bool (K _ _ _ (Gr.refl ..) S h)
theorem Bin.add_int {x y: Int} (h: Q (.int (x + y)) H): Bin w B d .Add (.int x) (.int y) H Q := fun uu uu uu ra rb uu uu uu uu uu S K => by obtain ⟨uu, rfl⟩ := ra.iint; obtain ⟨uu, rfl⟩ := rb.iint; exact wpAny_add_int (K _ _ _ _ (Gr.tok _) (S.tok _) (.int ..) h)
theorem Bin.sub_int {x y: Int} (h: Q (.int (x - y)) H): Bin w B d .Sub (.int x) (.int y) H Q := fun uu uu uu ra rb uu uu uu uu uu S K => by obtain ⟨uu, rfl⟩ := ra.iint; obtain ⟨uu, rfl⟩ := rb.iint; exact PyProof.Rows.sub_int (K _ _ _ _ (Gr.tok _) (S.tok _) (.int ..) h)
theorem Bin.mul_int {x y: Int} (hm: IntMulOk x y) (h: Q (.int (x * y)) H): Bin w B d .Mult (.int x) (.int y) H Q := fun uu uu uu ra rb uu uu uu uu uu S K => by obtain ⟨uu, rfl⟩ := ra.iint; obtain ⟨uu, rfl⟩ := rb.iint; exact PyProof.Rows.mul_int (K _ _ _ _ (Gr.tok _) (S.tok _) (.int ..) h) hm
theorem Bin.mod_int {x y: Int} (hb: y ≠ 0) (h: Q (.int (x.fmod y)) H): Bin w B d .Mod (.int x) (.int y) H Q := fun uu uu uu ra rb uu uu uu uu uu S K => by obtain ⟨uu, rfl⟩ := ra.iint; obtain ⟨uu, rfl⟩ := rb.iint; exact PyProof.Rows.mod_int' hb (K _ _ _ _ (Gr.tok _) (S.tok _) (.int ..) h)
theorem Bin.fdiv_int {x y: Int} (hb: y ≠ 0) (hp: Builtin.divisionGoesByPylong x y = false) (h: Q (.int (x.fdiv y)) H): Bin w B d .FloorDiv (.int x) (.int y) H Q :=
 fun uu uu uu ra rb uu uu uu uu uu S K => by obtain ⟨uu, rfl⟩ := ra.iint; obtain ⟨uu, rfl⟩ := rb.iint; exact floordiv_int hb (K _ _ _ _ (Gr.tok _) (S.tok _) (.int ..) h) (.inl hp)
theorem Bin.fdiv_room {x y: Int} (D: Wd w B) (hb: y ≠ 0) (h: Q (.int (x.fdiv y)) H): Bin w B d .FloorDiv (.int x) (.int y) H Q := by
 intro s uu uu ra rb A fr E Q' a S K
 obtain ⟨uu, rfl⟩ := ra.iint; obtain ⟨uu, rfl⟩ := rb.iint
 refine floordiv_int hb (K _ _ _ _ (Gr.tok _) (S.tok _) (.int ..) h) (.inr ?_)
 have hg := a.head
 have hfr := a.frames
 cases fr with
 | nil => exact hg.elim
 | cons env l =>
  refine PylongRoom.of (D.nolimit.keeps S.base) (by have := a.depth; show A.depth + Builtin.pylongFrames < recursionLimit; simp only [recursionLimit, Builtin.pylongFrames]; lia) ?_
  exact SeerAt.of (D.seer.keeps S.base) rfl hfr hg.1 hg.2.1 hg.2.2.1 hg.2.2.2
theorem Un.neg_int {x: Int} (h: Q (.int (-x)) H): Un w B d .USub (.int x) H Q := fun uu uu ra uu uu uu uu uu S K => by obtain ⟨uu, rfl⟩ := ra.iint; exact PyProof.Rows.neg_int (K _ _ _ _ (Gr.tok _) (S.tok _) (.int ..) h)
theorem Cmp.eq_int {x y: Int} (h: Q (.bool (x == y)) H): Cmp w B d .Eq (.int x) (.int y) H Q := fun uu uu uu ra rb uu uu uu uu uu S K => by obtain ⟨uu, rfl⟩ := ra.iint; obtain ⟨uu, rfl⟩ := rb.iint; exact PyProof.Rows.eq_int (K _ _ _ _ (Gr.refl ..) S (.bool _) h)
theorem Cmp.ne_int {x y: Int} (h: Q (.bool (x != y)) H): Cmp w B d .NotEq (.int x) (.int y) H Q := fun uu uu uu ra rb uu uu uu uu uu S K => by obtain ⟨uu, rfl⟩ := ra.iint; obtain ⟨uu, rfl⟩ := rb.iint; exact PyProof.Rows.ne_int (K _ _ _ _ (Gr.refl ..) S (.bool _) h)
theorem Cmp.lt_int {x y: Int} (h: Q (.bool (decide (x < y))) H): Cmp w B d .Lt (.int x) (.int y) H Q := fun uu uu uu ra rb uu uu uu uu uu S K => by obtain ⟨uu, rfl⟩ := ra.iint; obtain ⟨uu, rfl⟩ := rb.iint; exact PyProof.Rows.lt_int (K _ _ _ _ (Gr.refl ..) S (.bool _) h)
theorem Cmp.gt_int {x y: Int} (h: Q (.bool (decide (y < x))) H): Cmp w B d .Gt (.int x) (.int y) H Q := fun uu uu uu ra rb uu uu uu uu uu S K => by obtain ⟨uu, rfl⟩ := ra.iint; obtain ⟨uu, rfl⟩ := rb.iint; exact PyProof.Rows.gt_int (K _ _ _ _ (Gr.refl ..) S (.bool _) h)
theorem Cmp.ge_int {x y: Int} (h: Q (.bool (decide (y ≤ x))) H): Cmp w B d .GtE (.int x) (.int y) H Q := fun uu uu uu ra rb uu uu uu uu uu S K => by obtain ⟨uu, rfl⟩ := ra.iint; obtain ⟨uu, rfl⟩ := rb.iint; exact PyProof.Rows.ge_int (K _ _ _ _ (Gr.refl ..) S (.bool _) h)
theorem Iti.tup {xs: List V} {i: Int} {x: V} (h0: 0 ≤ i) (h1: i < 1000000) (hx: xs[i.toNat]? = some x) (h: Q x H): Iti w B d (.tup xs) (.int i) H Q := by
 intro s va vb ra rb value slice hs A fr E Q' a S K
 obtain ⟨l, vals, n, rfl, e, r⟩ := ra.itup
 obtain ⟨t, rfl⟩ := rb.iint
 obtain ⟨v, hv, rv⟩ := r.get hx
 have hi: seqIndex? i vals.length = some i.toNat := by
  have hl: i.toNat < vals.length := (List.getElem?_eq_some_iff.mp hv).1
  unfold seqIndex?
  have e1: ¬ i < 0 := by lia
  simp only [e1, if_false]
  simp
  lia
 exact item_tupleT (l := vals) ⟨_, e, rfl, n, rfl⟩ (by lia) (by lia) hi hv (K _ _ _ _ (Gr.refl ..) S rv h) hs
theorem Iti.list {l: Addr} {xs: List V} {i: Int} {x: V} (hl: H.o l = some (.list xs)) (h0: 0 ≤ i) (h1: i < 1000000) (hx: xs[i.toNat]? = some x) (h: Q x H): Iti w B d (.ref l) (.int i) H Q := by
 intro s va vb ra rb value slice hs A fr E Q' a S K
 obtain rfl := ra.iref
 obtain ⟨t, rfl⟩ := rb.iint
 obtain ⟨vals, hp, r⟩ := S.rep l _ hl
 obtain ⟨n, e⟩ := hp
 obtain ⟨v, hv, rv⟩ := r.get hx
 have hL: s.heap.IsList l vals.toArray := ⟨_, e, rfl, n, rfl⟩
 exact tail_any hL.typeIs slot_list_getitem.lookup (wpAny_getItem_list hL h0 (by lia) (by simpa using hv) (K _ _ _ _ (Gr.refl ..) S rv h)) hs
end
end Mine.Internal
end
section
open PySem PySem.W PySem.Calls PyProof.Rows
namespace Mine.Internal
inductive Fl where
 | next | brk | cont | ret (v: V)
inductive FR (h: Heap): Flow → Fl → Prop
 | next: FR h .next .next
 | brk: FR h .brk .brk
 | cont: FR h .cont .cont
 | ret {a: Value} {x: V}: VR h a x → FR h (.ret a) (.ret x)
noncomputable def Rho.set (ρ: Rho) (x: Str) (v: V): Rho := fun y => if y = x then some v else ρ y
structure Rz (w: World) (B: Heap) (env: Env) (lo: Nat) (e: Addr) (H: MH) (h: Heap): Prop where
 new: B.get? e = none
 noH: H.o e = none
 low: lo ≤ e
 noOwn: ¬ Own env e
 there: ∃ oe vs, h.get? e = some oe ∧ oe.cls = .ref 31 ∧ oe.data = .fields vs ∧ 1 < vs.size ∧
  (vs[1]? = some .none ∨ ∃ T oT ts, vs[1]? = some (.ref T) ∧ h.get? T = some oT ∧ oT.cls ≠ .type "frame" ∧ oT.data = .fields ts ∧ 3 < ts.size ∧ T ≠ e ∧ lo ≤ T ∧ B.get? T = none ∧ H.o T = none ∧ ¬ Own env T)
theorem Rz.le {w: World} {B: Heap} {env: Env} {lo lo': Nat} {e: Addr} {H: MH} {h: Heap} (x: Rz w B env lo e H h) (hl: lo' ≤ lo): Rz w B env lo' e H h := by
 refine ⟨x.new, x.noH, Nat.le_trans hl x.low, x.noOwn,?_⟩
 obtain ⟨oe, vs, h1, h2, h3, h4, h5⟩ := x.there
 refine ⟨oe, vs, h1, h2, h3, h4, h5.imp id ?_⟩
 rintro ⟨T, oT, ts, a1, a2, a0, a3, a4, a5, a6, a7, a8, a9⟩
 exact ⟨T, oT, ts, a1, a2, a0, a3, a4, a5, Nat.le_trans hl a6, a7, a8, a9⟩
noncomputable def HdE (env: Env) (fr: List Env): Prop := ∃ outer, fr = env :: outer
section
variable (w: World) (B: Heap)
noncomputable abbrev Post := Fl → Rho → MH → Prop
noncomputable def StK (env: Env) (d: Nat) (t: Sem Flow) (ρ: Rho) (H: MH) (Q: Post) (X: MH → Prop): Prop :=
 ∀ (A: Around) (fr: List Env) (s: Shared) (E: Value → Shared → Prop) (Q': Flow → Shared → Prop), AOk d fr A → HdE env fr → HS w B fr H s → Vars B env ρ H s.heap →
  (∀ f fl ρ' H' s', Gr (Own env) H s H' s' → HS w B fr H' s' → Vars B env ρ' H' s'.heap → FR s'.heap f fl → Q fl ρ' H' → Q' f s') →
  (∀ e ρ' H' s', Gr (Own env) H s H' s' → HS w B fr H' s' → Vars B env ρ' H' s'.heap → Rz w B env s.heap.objs.size e H' s'.heap → X H' → E (.ref e) s') →
  wpAny (model prg w) A t Q' E s
noncomputable def Ex (env: Env) (d: Nat) (st: Stmt) (ρ: Rho) (H: MH) (Q: Post) (X: MH → Prop): Prop := StK w B env d (exec st env) ρ H Q X
noncomputable def Exs (env: Env) (d: Nat) (sts: List Stmt) (ρ: Rho) (H: MH) (Q: Post) (X: MH → Prop): Prop := StK w B env d (execs sts env) ρ H Q X
end
section
variable {w: World} {B: Heap} {env: Env} {d: Nat} {ρ: Rho} {H: MH} {Q: Post} {X: MH → Prop} {fr: List Env}
theorem StK.mono {t: Sem Flow} {Q₁: Post} {X₁: MH → Prop} (h: StK w B env d t ρ H Q X) (hq: ∀ f ρ' H', Q f ρ' H' → Q₁ f ρ' H') (hx: ∀ H', X H' → X₁ H'): StK w B env d t ρ H Q₁ X₁ :=
 fun A fr s E Q' a hE S W K KX => h A fr s E Q' a hE S W (fun f fl ρ' H' s' g S' W' r q => K f fl ρ' H' s' g S' W' r (hq _ _ _ q)) (fun e ρ' H' s' g S' W' r q => KX e ρ' H' s' g S' W' r (hx _ q))
theorem Xo (h: Q .next ρ H): Exs w B env d [] ρ H Q X := fun uu uu uu uu uu uu uu S W K uu => wpAny_execs_nil (K _ _ _ _ _ (Gr.refl ..) S W .next h)
theorem Exs.cons {st: Stmt} {rest: List Stmt} (h: Ex w B env d st ρ H (fun f ρ' H' => match f with | .next => Exs w B env d rest ρ' H' Q X | f => Q f ρ' H') X): Exs w B env d (st :: rest) ρ H Q X := by
 intro A fr s E Q' a hE S W K KX
 refine wpAny_execs_cons (h A fr s E _ a hE S W (fun f fl ρ1 H1 s1 g1 S1 W1 r1 q1 => ?_) KX)
 cases r1 with
 | next => exact q1 A fr s1 E Q' a hE S1 W1 (fun f fl ρ' H' s' g S' W' r q => K f fl ρ' H' s' (g1.trans g) S' W' r q) (fun e ρ' H' s' g S' W' r q => KX e ρ' H' s' (g1.trans g) S' W' (r.le g1.ext.size) q)
 | brk => exact K _ _ _ _ _ g1 S1 W1 .brk q1
 | cont => exact K _ _ _ _ _ g1 S1 W1 .cont q1
 | ret r => exact K _ _ _ _ _ g1 S1 W1 (.ret r) q1
theorem Ex.ret {e: Expr} {pos: Pos} (h: Ev w B env d e ρ H fun v H' => Q (.ret v) ρ H'): Ex w B env d (.Return (some e) pos) ρ H Q X := by
 intro A fr s E Q' a hE S W K KX
 exact wpAny_Return_some (h A fr s E _ a S W fun v x H' s' g S' r q => K _ _ _ _ _ g.up S' (W.gr S g) (.ret r) q)
theorem Ex.if_ {t: Expr} {b o: List Stmt} {pos: Pos} (h: Ts w B env d t ρ H fun c H1 => if c then Exs w B env d b ρ H1 Q X else Exs w B env d o ρ H1 Q X): Ex w B env d (.If t b o pos) ρ H Q X := by
 intro A fr s E Q' a hE S W K KX
 refine wpAny_If (h A fr s E _ a S W fun c H1 s1 g1 S1 q1 => ?_)
 have K': ∀ f fl ρ' H' s', Gr (Own env) H1 s1 H' s' → HS w B fr H' s' → Vars B env ρ' H' s'.heap → FR s'.heap f fl → Q fl ρ' H' → Q' f s' := fun f fl ρ' H' s' g S' W' r q => K f fl ρ' H' s' (g1.up.trans g) S' W' r q
 have KX': ∀ e ρ' H' s', Gr (Own env) H1 s1 H' s' → HS w B fr H' s' → Vars B env ρ' H' s'.heap → Rz w B env s1.heap.objs.size e H' s'.heap → X H' → E (.ref e) s' := fun e ρ' H' s' g S' W' r q => KX e ρ' H' s' (g1.up.trans g) S' W' (r.le g1.ext.size) q
 cases c with
 | true => exact q1 A fr s1 E Q' a hE S1 (W.gr S g1) K' KX'
 | false => exact q1 A fr s1 E Q' a hE S1 (W.gr S g1) K' KX'
theorem Ex.cont_ {pos: Pos} (h: Q .cont ρ H): Ex w B env d (.Continue pos) ρ H Q X := fun uu uu uu uu uu uu uu S W K uu => wpAny_Continue (K _ _ _ _ _ (Gr.refl ..) S W .cont h)
theorem Ex.expr {e: Expr} {pos: Pos} (h: Ev w B env d e ρ H fun uu H' => Q .next ρ H') (hi: interactive env = false := by rfl) (hs: swapsWith e none pos.line env = pure false := by rfl): Ex w B env d (.Expr e pos) ρ H Q X := by
 intro A fr s E Q' a hE S W K KX
 exact wpAny_Expr_any (h A fr s E _ a S W fun v x H' s' g S' r q => K _ _ _ _ _ g.up S' (W.gr S g) .next q) hi hs
theorem sameOwn {s: Shared} {h': Heap} {t: Nat} {a: Addr} (S: HS w B fr H s) (W: Vars B env ρ H s.heap) (ha: Own env a) (sb: Heap.SameBut a s.heap h')
  (hd: ∀ o, s.heap.get? a = some o → ∃ o', h'.get? a = some o' ∧ ∀ vs, o'.data ≠ .fields vs)
  (hnt: ∀ o, s.heap.get? a = some o → ∀ xs n, o.data ≠ .seq xs n) (hcl: SameCls a s.heap h') :
  HS w B fr H { s with heap := h', toks := t } ∧ Gr (· = a) H s H { s with heap := h', toks := t } ∧ TupKeep s.heap h' := by
 have n := W.own a ha
 have kt: TupKeep s.heap h' := fun b o e c ⟨xs, k, hs⟩ => (sb.2 b fun q => by subst q; exact hnt o e xs k hs).trans e
 have ne: ∀ b, H.o b ≠ none → b ≠ a := fun b e q => by subst q; exact e n.1
 refine ⟨⟨fun b o e => (sb.2 b fun q => by subst q; rw [n.2] at e; exact nsF e).trans (S.base b o e), S.sep, fun b mo e => (S.rep b mo e).fr (fun o e' => (sb.2 b (ne b (by rw [e]; simp))).trans e') kt,?_, S.frsep, fun env he L hL => ?_, fun b e => ?_, by show sysModules < h'.objs.size; rw [sb.1]; exact S.low.1, S.low.2⟩, ⟨rfl,?_⟩, kt⟩
 ·have: ∀ {l: List Env}, s.heap.FunFrames B l → h'.FunFrames B l := by
   intro l
   induction l with
   | nil => intro uu; trivial
   | cons e r ih =>
    rintro ⟨p1, ⟨L1, o1, f1, n1, g1, d1⟩, hr'⟩
    refine ⟨p1,?_, ih hr'⟩
    by_cases q: L1 = a
    ·subst q
     obtain ⟨o', e', d'⟩ := hd o1 g1
     exact ⟨L1, o', f1, n1, e', d'⟩
    ·exact ⟨L1, o1, f1, n1, (sb.2 L1 q).trans g1, d1⟩
  exact this S.frs
 ·by_cases q: L = a
  ·subst q; exact (S.frc env he L hL).same hcl
  ·obtain ⟨o, e, c⟩ := S.frc env he L hL; exact ⟨o, (sb.2 L q).trans e, c⟩
 ·show b < h'.objs.size
  rw [sb.1]; exact S.lt b e
 ·exact ⟨fun b o e uu nx uu => (sb.2 b nx).trans e, fun b o e uu nx => ⟨o, (sb.2 b nx).trans e, rfl, rfl⟩, fun uu e => e, fun uu => Nat.le_refl _, fun b o e m uu => (sb.2 b (ne b m)).trans e, fun uu e => .inl e, Nat.le_of_eq sb.1.symm⟩
theorem Ns.ne_cell {h: Heap} {a c: Addr} {m: Str → Option Value} {ov: Option Value} (x: h.Ns a m) (y: h.IsCell c ov): c ≠ a := by
 rintro rfl
 obtain ⟨o, es, ep, e, hd, uu⟩ := x
 obtain ⟨o', e', hd'⟩ := y
 rw [e] at e'; obtain rfl := Option.some.inj e'; rw [hd] at hd'; cases hd'
theorem name_of_cell {cs: List (Str × Addr)} (hp: cs.Pairwise fun x y => x.2 ≠ y.2) {x y: Str} {c: Addr} (h1: (x, c) ∈ cs) (h2: (y, c) ∈ cs): x = y := by
 induction cs with
 | nil => cases h1
 | cons z r ih =>
  rw [List.pairwise_cons] at hp
  rcases List.mem_cons.mp h1 with e1 | m1 <;> rcases List.mem_cons.mp h2 with e2 | m2
  ·rw [← e2] at e1; cases e1; rfl
  ·subst e1; exact (hp.1 _ m2 rfl).elim
  ·subst e2; exact (hp.1 _ m1 rfl).elim
  ·exact ih hp.2 m1 m2
theorem store_local {A: Around} {s: Shared} {E: Value → Shared → Prop} {Q': Unit → Shared → Prop} {x: Str} {val: Value} {v: V} (S: HS w B fr H s) (W: Vars B env ρ H s.heap) (r: VR s.heap val v)
  (hx: env.kindOf x = some .local)
  (K: ∀ s', Gr (· = env.locals) H s H s' → HS w B fr H s' → Vars B env (ρ.set x v) H s'.heap → Q' () s') :
  wpAny (model prg w) A (storeName env x val) Q' E s := by
 obtain ⟨m, hm, hv⟩ := W.ns
 refine storeLocal_cls hx hm (fun h' hn' sb hcl => ?_) (by rw [W.hkind]; rfl)
 obtain ⟨S', g, kt⟩ := sameOwn (t := s.toks + 1) S W (.inl rfl) sb
  (fun o e => by obtain ⟨o', es, ep, e', d', uu⟩ := hn'; exact ⟨o', e', fun vs q => by rw [d'] at q; cases q⟩)
  (fun o e xs n q => by obtain ⟨o', es, ep, e', d', uu⟩ := hm; rw [e] at e'; obtain rfl := Option.some.inj e'; rw [d'] at q; cases q) hcl
 refine K _ g S' ⟨W.hkind, W.hglob, W.hblt, ⟨_, hn', fun y u e => ?_⟩, fun y c hy => ?_, W.apart, W.own⟩
 ·by_cases q: y = x
  ·subst q
   simp only [Rho.set, if_true] at e; obtain rfl := Option.some.inj e
   exact ⟨val, VR.mono' kt r, .inl ⟨hx, by simp⟩⟩
  ·simp only [Rho.set, if_neg q] at e
   obtain ⟨val', r', z⟩ := hv y u e
   refine ⟨val', VR.mono' kt r',?_⟩
   rcases z with z | ⟨z1, c, z2, z3⟩
   ·exact .inl ⟨z.1, by simp [q, z.2]⟩
   ·have := Ns.ne_cell hm z3
    obtain ⟨o, e1, e2⟩ := z3
    exact .inr ⟨z1, c, z2, o, (sb.2 c this).trans e1, e2⟩
 ·obtain ⟨ov, hi⟩ := W.cells y c hy
  have := Ns.ne_cell hm hi
  obtain ⟨o, e1, e2⟩ := hi
  exact ⟨ov, o, (sb.2 c this).trans e1, e2⟩
theorem store_name {A: Around} {s: Shared} {E: Value → Shared → Prop} {Q': Unit → Shared → Prop} {x: Str} {val: Value} {v: V} (S: HS w B fr H s) (W: Vars B env ρ H s.heap) (r: VR s.heap val v)
  (hx: env.kindOf x = some .local ∨ (env.kindOf x = some .cell ∧ (env.cells.lookup x).isSome = true))
  (K: ∀ s', Gr (Own env) H s H s' → HS w B fr H s' → Vars B env (ρ.set x v) H s'.heap → Q' () s') :
  wpAny (model prg w) A (storeName env x val) Q' E s := by
 rcases hx with hx | ⟨hx, hc⟩
 ·exact store_local S W r hx fun s' g => K s' (g.weaken fun a e => .inl e)
 ·obtain ⟨m, hm, hv⟩ := W.ns
  obtain ⟨c, hc⟩ := Option.isSome_iff_exists.mp hc
  have hmem := mem_of_lookup hc
  obtain ⟨ov, hi⟩ := W.cells x c hc
  refine storeCell_cls W.hkind hx hc hi fun h' hi' sb hcl => ?_
  obtain ⟨S', g, kt⟩ := sameOwn (t := s.toks) S W (.inr ⟨x, hc⟩) sb
   (fun o e => by obtain ⟨o', e', d'⟩ := hi'; exact ⟨o', e', fun vs q => by rw [d'] at q; cases q⟩)
   (fun o e xs n q => by obtain ⟨o', e', d'⟩ := hi; rw [e] at e'; obtain rfl := Option.some.inj e'; rw [d'] at q; cases q) hcl
  have hL: env.locals ≠ c := fun q => Ns.ne_cell hm hi q.symm
  refine K _ (g.weaken fun a e => .inr ⟨x, e ▸ hc⟩) S' ⟨W.hkind, W.hglob, W.hblt, ⟨m,?_, fun y u e => ?_⟩, fun y c' hy => ?_, W.apart, W.own⟩
  ·exact hm.sameBut sb hL
  ·by_cases q: y = x
   ·subst q
    simp only [Rho.set, if_true] at e; obtain rfl := Option.some.inj e
    exact ⟨val, VR.mono' kt r, .inr ⟨.inl hx, c, hc, hi'⟩⟩
   ·simp only [Rho.set, if_neg q] at e
    obtain ⟨val', r', z⟩ := hv y u e
    refine ⟨val', VR.mono' kt r',?_⟩
    rcases z with z | ⟨z1, c', z2, z3⟩
    ·exact .inl z
    ·have: c' ≠ c := fun qq => q (name_of_cell W.apart (mem_of_lookup z2) (qq ▸ hmem))
     obtain ⟨o, e1, e2⟩ := z3
     exact .inr ⟨z1, c', z2, o, (sb.2 c' this).trans e1, e2⟩
  ·by_cases q: c' = c
   ·subst q; exact ⟨_, hi'⟩
   ·obtain ⟨ov', o, e1, e2⟩ := W.cells y c' hy
    exact ⟨ov', o, (sb.2 c' q).trans e1, e2⟩
theorem Ex.assign {x: Str} {pos' pos: Pos} {value: Expr} (h: Ev w B env d value ρ H fun v H' => Q .next (ρ.set x v) H')
  (hx: env.kindOf x = some .local ∨ (env.kindOf x = some .cell ∧ (env.cells.lookup x).isSome = true) := by first | exact .inl rfl | exact .inr ⟨rfl, rfl⟩)
  (hs: swapsWith value (some (.Name x pos')) pos.line env = pure false := by rfl): Ex w B env d (.Assign [.Name x pos'] value pos) ρ H Q X := by
 intro A fr s E Q' a hE S W K KX
 refine wpAny_Assign_Name (h A fr s E _ a S W fun v z H1 s1 g1 S1 r1 q1 => ?_) hs
 exact store_name S1 (W.gr S g1) r1 hx fun s' g S' W' => K _ _ _ _ _ (g1.up.trans g) S' W' .next q1
theorem Ex.aug {x: Str} {pos' pos: Pos} {value: Expr} {op: Operator} {i: Int} (hx0: ρ x = some (.int i)) (hop: op = .Add)
  (h: Ev w B env d value ρ H fun v H' => ∃ j, v = .int j ∧ Q .next (ρ.set x (.int (i + j))) H')
  (hx: env.kindOf x = some .local := by rfl) :
  Ex w B env d (.AugAssign (.Name x pos') op value pos) ρ H Q X := by
 subst hop
 intro A fr s E Q' a hE S W K KX
 obtain ⟨m, hm, hv⟩ := W.ns
 obtain ⟨val, r, z⟩ := hv x _ hx0
 refine wpAny_AugAssign_Name ?_
 rcases z with ⟨uu, z2⟩ | ⟨z1 | z1, uu⟩
 ·refine wpAny_loadName_local W.hkind hx hm z2 (h A fr s E _ a S W fun v z H1 s1 g1 S1 r1 q1 => ?_)
  obtain ⟨j, rfl, q⟩ := q1
  obtain ⟨uu, rfl⟩ := r1.iint; obtain ⟨uu, rfl⟩ := r.iint
  refine wpAny_iadd_int ?_
  have W1 := W.gr S g1
  refine store_name (s := { s1 with toks := s1.toks + 1 }) (S1.tok _) W1 (.int ..) (.inl hx) fun s' g S' W' => K _ _ _ _ _ ((g1.trans (Gr.tok _)).up.trans g) S' W' .next q
 ·rw [hx] at z1; cases z1
 ·rw [hx] at z1; cases z1
end
end Mine.Internal
end
section
open PySem PySem.W PySem.Calls PyProof.Rows
namespace Mine.Internal
theorem bindL_stay {kindOf: Str → Option NameKind}: ∀ {binds: List (Str × Value)} {m: Str → Option Value} {x: Str}, x ∉ binds.map (·.1) → bindL kindOf binds m x = m x := by
 intro xs1
 induction xs1 with
 | nil => intro uu uu uu; exact rfl
 | cons pr r ih =>
  obtain ⟨n, v⟩ := pr
  intro m x h
  rw [List.map_cons, List.mem_cons, not_or] at h
  rw [bindL, ih h.2]
  split
  ·simp [h.1]
  ·rfl
theorem bindC_stay {kindOf: Str → Option NameKind}: ∀ {binds: List (Str × Value)} {m: Str → Option Value} {x: Str}, x ∉ binds.map (·.1) → bindC kindOf binds m x = m x := by
 intro xs1
 induction xs1 with
 | nil => intro uu uu uu; exact rfl
 | cons pr r ih =>
  obtain ⟨n, v⟩ := pr
  intro m x h
  rw [List.map_cons, List.mem_cons, not_or] at h
  rw [bindC, ih h.2]
  split
  ·rfl
  ·simp [h.1]
theorem bindL_hit {kindOf: Str → Option NameKind}: ∀ {binds: List (Str × Value)} {m: Str → Option Value} {x: Str} {v: Value}, (binds.map (·.1)).Nodup → binds.lookup x = some v → kindOf x = some .local → bindL kindOf binds m x = some v := by
 intro xs1
 induction xs1 with
 | nil => intro uu uu uu uu h uu; cases h
 | cons pr r ih =>
  obtain ⟨n, u⟩ := pr
  intro m x v hn h hk
  rw [List.map_cons, List.nodup_cons] at hn
  rw [bindL]
  by_cases q: x = n
  ·subst q
   simp only [List.lookup_cons, beq_self_eq_true] at h
   rw [bindL_stay hn.1, if_pos hk]; simpa using h
  ·rw [List.lookup_cons, beq_eq_false_iff_ne.mpr q] at h
   exact ih hn.2 h hk
theorem bindC_hit {kindOf: Str → Option NameKind}: ∀ {binds: List (Str × Value)} {m: Str → Option Value} {x: Str} {v: Value}, (binds.map (·.1)).Nodup → binds.lookup x = some v → kindOf x ≠ some .local → bindC kindOf binds m x = some v := by
 intro xs1
 induction xs1 with
 | nil => intro uu uu uu uu h uu; cases h
 | cons pr r ih =>
  obtain ⟨n, u⟩ := pr
  intro m x v hn h hk
  rw [List.map_cons, List.nodup_cons] at hn
  rw [bindC]
  by_cases q: x = n
  ·subst q
   simp only [List.lookup_cons, beq_self_eq_true] at h
   rw [bindC_stay hn.1, if_neg hk]; simpa using h
  ·rw [List.lookup_cons, beq_eq_false_iff_ne.mpr q] at h
   exact ih hn.2 h hk
theorem zip_lookup {h: Heap} {names: List Str} {vals: List Value} {xs: List V} {x: Str} {v: V} (r: VRs h vals xs): (names.zip xs).lookup x = some v → ∃ val, (names.zip vals).lookup x = some val ∧ VR h val v := by
 induction names generalizing vals xs with
 | nil => exact fun e => nsF e
 | cons n ns ih =>
  intro e
  cases xs with
  | nil => exact nsF e
  | cons y ys =>
   obtain ⟨val, vals, rfl, r, rs⟩ := r.icons
   simp only [List.zip_cons_cons, List.lookup_cons] at e ⊢
   by_cases q: x = n
   ·subst q
    simp only [beq_self_eq_true] at e ⊢
    obtain rfl := Option.some.inj e; exact ⟨val, rfl, r⟩
   ·simp only [beq_eq_false_iff_ne.mpr q] at e ⊢
    exact ih rs e
theorem zip_names {names: List Str} {vals: List Value} (h: vals.length = names.length): (names.zip vals).map (·.1) = names := List.map_fst_zip (by lia)
noncomputable def retV: Fl → V
 | .ret v => v
 | _ => .none
section
variable {w: World} {B: Heap} {d: Nat} {H: MH} {Q: V → MH → Prop}
theorem enter_raw {fa: Addr} {name qual: Str} {params: Arguments} {body: List Stmt} {scope: Scope} {dV kV doc pm cdv ct oc: Value} {an od: Option Addr} {osl: Array (Option Value)} {names: List Str} {xs: List V} (D: Wd w B)
  (ho: (Internal.heapK w.params).lookup fa = some ⟨oc, od, .func (fnOf name qual params body scope dV kV doc pm an cdv ct), osl⟩)
  (hcd: codeIn (Internal.heapK w.params) cdv qual = true)
  (hb: ∀ vals: List Value, vals.length = names.length → bindArgs (fnOf name qual params body scope dV kV doc pm an cdv ct) ⟨vals, []⟩ = pure (names.zip vals))
  (hn: names.Nodup) (hl: xs.length = names.length)
  (hkn: (names.all fun n => scope.names.lookup n == some .local || scope.names.lookup n == some .cell) = true) {X: MH → Prop}
  (h: ∀ L, Exs w B (envOfC qual scope L fa cdv) d body (fun x => (names.zip xs).lookup x) H (fun f uu H' => Q (retV f) H') X)
  (hco: scope.isCoroutine = false) (hgen: scope.isGenerator = false) (hk: scope.kind = .function)
  {s: Shared} {vals: List Value} (r: VRs s.heap vals xs) {A: Around} {fr: List Env} {E Q': Value → Shared → Prop} (a: AOk0 (d + 1) fr A) (S: HS w B fr H s)
  (K: ∀ val v H' s', Gr NoX H s H' s' → HS w B fr H' s' → VR s'.heap val v → Q v H' → Q' val s')
  (KX: ∀ env e ρ' H' s', (∃ L, env = envOfC qual scope L fa cdv) → (∀ b, Own env b → s.heap.objs.size ≤ b) → Gr NoX H s H' s' → HS w B (env :: fr) H' s' → Vars B env ρ' H' s'.heap → Rz w B env s.heap.objs.size e H' s'.heap → X H' →
   wpAny (model prg w) (A.deeper env) (leaving env (.ref e)) (fun uu s'' => E (.ref e) s'') E s') :
  wpAny (model prg w) A (call (.ref fa) vals) Q' E s := by
 have hlen: vals.length = names.length := r.length.trans hl
 have hx: (Internal.heapK w.params).In s.heap := D.inn.keeps S.base
 have hnd: ((names.zip vals).map (·.1)).Nodup := by rw [zip_names hlen]; exact hn
 have hkk: ∀ n ∈ names, scope.names.lookup n = some .local ∨ scope.names.lookup n = some .cell := fun n hm => by
  have := List.all_eq_true.mp hkn n hm
  simpa using this
 have hkind: ∀ y ∈ names.zip vals, scope.names.lookup y.1 = some .local ∨ (scope.names.lookup y.1 = some .cell ∧ ((cellsFrom (s.heap.objs.size + 1) scope.names []).lookup y.1).isSome = true) :=
  kindsX (by
   rw [List.all_eq_true]
   intro y hy
   have hm: y.1 ∈ names := by rw [← zip_names hlen]; exact List.mem_map_of_mem hy
   rcases hkk y.1 hm with q | q <;> simp [q]) _
 refine wpAny_call (call_cells_cls (fd := fnOf name qual params body scope dV kV doc pm an cdv ct) (body := body) (by have := a.depth; simp only [recursionLimit]; lia) (hx _ _ ho) rfl (D.nolimit.keeps S.base) (codeRec_of hx hcd) rfl (hb vals hlen) rfl hkind (fun s₁ x hfc => ?_) hco hgen hk)
 have kp: Keep s.heap s₁.heap := x.toInCall.keep
 have hL: s.heap.objs.size ≤ s₁.heap.objs.size := Nat.le_of_lt (Nat.lt_of_le_of_lt x.toInCall.fresh x.toInCall.ns.lt)
 obtain ⟨h₁, tk, e1, uu⟩ := x.done
 have S₁: HS w B fr H s₁ := by rw [e1]; exact S.keep (by have := kp; rw [e1] at this; exact this) (by have := hL; rw [e1] at this; exact this)
 have G₁: Gr NoX H s H s₁ := by rw [e1]; exact Gr.keep (by have := kp; rw [e1] at this; exact this) (by have := hL; rw [e1] at this; exact this)
 have own: ∀ b, Own (envOfC qual scope s.heap.objs.size fa cdv) b → s.heap.objs.size ≤ b := by
  rintro b (rfl | ⟨y, hy⟩)
  ·exact Nat.le_refl _
  ·exact Nat.le_of_lt (x.above y b (mem_of_lookup hy))
 have ownH: ∀ b, Own (envOfC qual scope s.heap.objs.size fa cdv) b → H.o b = none ∧ B.get? b = none := fun b hb => by
  refine ⟨?_, S.bfresh (own b hb)⟩
  cases q: H.o b with
  | none => rfl
  | some mo => exact absurd (S.lt b (by rw [q]; simp)) (Nat.not_lt.mpr (own b hb))
 have S₂: HS w B (envOfC qual scope s.heap.objs.size fa cdv :: fr) H s₁ := by
  refine ⟨S₁.base, S₁.sep, S₁.rep,?_, fun env he L hL' => ?_, fun env he L hL' => ?_, S₁.lt, S₁.low⟩
  ·exact Heap.FunFrames.cons (by show scope.kind ≠ .module; rw [hk]; decide) rfl x.toInCall.ns (ownH _ (.inl rfl)).2 S₁.frs
  ·rcases List.mem_cons.mp he with rfl | he
   ·cases hL'; exact (ownH _ (.inl rfl)).1
   ·exact S₁.frsep env he L hL'
  ·rcases List.mem_cons.mp he with rfl | he
   ·cases hL'; exact hfc
   ·exact S₁.frc env he L hL'
 have W₁: Vars B (envOfC qual scope s.heap.objs.size fa cdv) (fun y => (names.zip xs).lookup y) H s₁.heap := by
  refine ⟨hk, rfl, rfl, ⟨_, x.toInCall.ns, fun y v e => ?_⟩, fun y c hy => ?_, x.apart, ownH⟩
  ·obtain ⟨val, e2, r2⟩ := zip_lookup (VRs.mono' (Keep.tup kp) r) e
   refine ⟨val, r2,?_⟩
   have hm: y ∈ names := by rw [← zip_names hlen]; exact List.mem_map.mpr ⟨(y, val), mem_of_lookup e2, rfl⟩
   rcases hkk y hm with q | q
   ·exact .inl ⟨q, bindL_hit hnd e2 q⟩
   ·obtain ⟨c, hc⟩ := Option.isSome_iff_exists.mp ((hkind (y, val) (mem_of_lookup e2)).resolve_left (by rw [q]; simp)).2
    refine .inr ⟨.inl q, c, hc,?_⟩
    have := x.cell y c hc
    rw [bindC_hit hnd e2 (by show ¬ scope.names.lookup y = some .local; rw [q]; simp)] at this
    exact this
  ·exact ⟨_, x.cell y c hy⟩
 have back: ∀ {H': MH} {s': Shared}, Gr (Own (envOfC qual scope s.heap.objs.size fa cdv)) H s₁ H' s' → HS w B (envOfC qual scope s.heap.objs.size fa cdv :: fr) H' s' → HS w B fr H' s' ∧ Gr NoX H s H' s' := by
  intro H' s' g S'
  refine ⟨⟨S'.base, S'.sep, S'.rep, S'.frs.2.2, fun env he => S'.frsep env (.tail _ he), fun env he => S'.frc env (.tail _ he), S'.lt, S'.low⟩, by rw [g.same, e1],?_⟩
  have ge := g.ext
  have nb: ∀ b o, s.heap.get? b = some o → ¬ Own (envOfC qual scope s.heap.objs.size fa cdv) b := fun b o e q => absurd (Heap.lt_size e) (Nat.not_lt.mpr (own b q))
  refine ⟨fun b o e n uu c => ge.keep b o (kp b o e) n (nb b o e) c, fun b o e n uu => ge.fkeep b o (kp b o e) n (nb b o e), ge.dom, ge.ver, fun b o e n q => ge.same b o (kp b o e) n q, fun b e => ?_, Nat.le_trans hL ge.size⟩
  rcases ge.new b e with q | q
  ·exact .inl q
  ·exact .inr (Nat.le_trans hL q)
 refine h _ (A.deeper _) (envOfC qual scope s.heap.objs.size fa cdv :: fr) s₁ _ _ (a.deeper _ ⟨hgen, hco, rfl, rfl⟩) ⟨_, rfl⟩ S₂ W₁ (fun f fl ρ' H' s' g S' W' rr q => ?_) (fun e ρ' H' s' g S' W' rz q => ?_)
 ·obtain ⟨S3, g3⟩ := back g S'
  cases rr with
  | next => exact K _ _ _ _ g3 S3 .none q
  | brk => exact K _ _ _ _ g3 S3 .none q
  | cont => exact K _ _ _ _ g3 S3 .none q
  | ret rr => exact K _ _ _ _ g3 S3 rr q
 ·obtain ⟨S3, g3⟩ := back g S'
  exact KX _ e ρ' H' s' ⟨_, rfl⟩ own g3 S' W' (rz.le hL) q
theorem Cal.enter {fa: Addr} {name qual: Str} {params: Arguments} {body: List Stmt} {scope: Scope} {dV kV doc pm cdv ct oc: Value} {an od: Option Addr} {osl: Array (Option Value)} {names: List Str} {xs: List V} (D: Wd w B)
  (ho: (Internal.heapK w.params).lookup fa = some ⟨oc, od, .func (fnOf name qual params body scope dV kV doc pm an cdv ct), osl⟩)
  (hcd: codeIn (Internal.heapK w.params) cdv qual = true)
  (hb: ∀ vals: List Value, vals.length = names.length → bindArgs (fnOf name qual params body scope dV kV doc pm an cdv ct) ⟨vals, []⟩ = pure (names.zip vals))
  (hn: names.Nodup) (hl: xs.length = names.length)
  (hkn: (names.all fun n => scope.names.lookup n == some .local || scope.names.lookup n == some .cell) = true)
  (h: ∀ L, Exs w B (envOfC qual scope L fa cdv) d body (fun x => (names.zip xs).lookup x) H (fun f uu H' => Q (retV f) H') fun uu => False)
  (hco: scope.isCoroutine = false := by rfl) (hgen: scope.isGenerator = false := by rfl) (hk: scope.kind = .function := by rfl): Cal w B (d + 1) (.ref fa) xs H Q :=
 fun uu uu r uu uu uu uu a S K => enter_raw D ho hcd hb hn hl hkn h hco hgen hk r a.toAOk0 S K fun uu uu uu uu uu uu uu uu uu uu uu q => q.elim
end
end Mine.Internal
end
section
open PySem PySem.W PySem.Calls PyProof.Rows
namespace Mine.Internal
section
variable {w: World} {B: Heap} {env: Env} {d: Nat} {ρ: Rho} {H: MH} {Q: V → MH → Prop}
theorem Ev.call {f: Str} {np pos: Pos} {fa: Addr} {fo: Obj} {fd: FuncData} {e: Expr} {es: List Expr} (D: Wd w B) (hf: nsIn (Internal.heapK w.params) mainGlobals f = some (some (.ref fa)))
  (ho: (Internal.heapK w.params).lookup fa = some fo) (hd: fo.data = .func fd)
  (h: Evs w B env d (e :: es) ρ H fun xs H1 => Cal w B d (.ref fa) xs H1 Q)
  (hx: env.kindOf f = some .globalImplicit := by rfl) (hp: (e :: es).all noStar = true := by rfl) (hd1: (f == ("__debug__": Str)) = false := by decide) :
  Ev w B env d (.Call (.Name f np) (e :: es) [] pos) ρ H Q := by
 intro A fr s E Q' a S W K
 refine wpAny_Call_ofName (global_raw D S.base W hf hx (callWith_def hd (Evs.run hp h a S W fun vals vs H' s' g S' r q => ⟨(D.inn.keeps S'.base) _ _ ho,?_⟩) (starEach_plain (by simpa using (Bool.and_eq_true_iff.mp hp).1))) hd1)
 exact q s' vals r A fr E Q' a S' fun v z H3 s3 g3 S3 r3 q3 => K v z H3 s3 (g.trans g3) S3 r3 q3
theorem Ev.call_bi {f: Str} {np pos: Pos} {id: String} {e: Expr} {es: List Expr} (D: Wd w B) (hf: nsIn (Internal.heapK w.params) mainGlobals f = some none)
  (hv: bootBuiltins f = some (.builtin id)) (hn: f ≠ "__name__")
  (h: Evs w B env d (e :: es) ρ H fun xs H1 => Cal w B d (.builtin id) xs H1 Q)
  (hx: env.kindOf f = some .globalImplicit := by rfl) (hp: (e :: es).all noStar = true := by rfl) (hd1: (f == ("__debug__": Str)) = false := by decide) :
  Ev w B env d (.Call (.Name f np) (e :: es) [] pos) ρ H Q := by
 intro A fr s E Q' a S W K
 have hp' := Bool.and_eq_true_iff.mp hp
 refine wpAny_Call_ofName (builtin_raw D S.base W hf hv hn hx (callWith_builtin1 (Evs.run hp h a S W fun vals vs H' s' g S' r q => ?_) (starEach_plain hp'.1) (starEach_any hp'.2)) hd1)
 exact q s' vals r A fr E Q' a S' fun v z H3 s3 g3 S3 r3 q3 => K v z H3 s3 (g.trans g3) S3 r3 q3
theorem Ev.call_ty {f: Str} {np pos: Pos} {T: String} {e: Expr} {es: List Expr} (D: Wd w B) (hf: nsIn (Internal.heapK w.params) mainGlobals f = some none)
  (hv: bootBuiltins f = some (.type T)) (hn: f ≠ "__name__")
  (h: Evs w B env d (e :: es) ρ H fun xs H1 => Cal w B d (.type T) xs H1 Q)
  (hx: env.kindOf f = some .globalImplicit := by rfl) (hp: (e :: es).all noStar = true := by rfl) (hd1: (f == ("__debug__": Str)) = false := by decide) :
  Ev w B env d (.Call (.Name f np) (e :: es) [] pos) ρ H Q := by
 intro A fr s E Q' a S W K
 have hp' := Bool.and_eq_true_iff.mp hp
 refine wpAny_Call_ofName (builtin_raw D S.base W hf hv hn hx (callWith_type1 (Evs.run hp h a S W fun vals vs H' s' g S' r q => ?_) (starEach_plain hp'.1) (starEach_any hp'.2)) hd1)
 exact q s' vals r A fr E Q' a S' fun v z H3 s3 g3 S3 r3 q3 => K v z H3 s3 (g.trans g3) S3 r3 q3
theorem Cal.abs {i: Int} (h: Q (.int (if i < 0 then -i else i)) H): Cal w B d (.builtin "abs") [.int i] H Q := by
 intro s vs r A fr E Q' a S K
 obtain ⟨uu, uu, rfl, r1, r⟩ := r.icons
 obtain rfl := r.inil; obtain ⟨uu, rfl⟩ := r1.iint
 exact call_abs_int fun u tk => K _ _ _ _ (Gr.tok _) (S.tok _) (.int ..) h
end
end Mine.Internal
end
section
open PySem PySem.W PySem.Calls PyProof.Rows
namespace Mine.Internal
theorem runs_hs {M: Model} {Γ: Ctx} {p: Pos} {t: Sem Fin} {fs: List Frame} {s s': Shared} {e: End} (h: Runs M Γ p t fs s e s'): s.heap.objs.size ≤ s'.heap.objs.size := by
 induction h <;> (try simp only [Shared.setGen, Heap.size_push, Heap.size_after_update] at *) <;> lia
theorem returns_hs {M: Model} {Γ: Ctx} {p: Pos} {s s': Shared} {r: Result} (h: Returns M Γ p s r s'): s.heap.objs.size ≤ s'.heap.objs.size := runs_hs h
theorem wakes_hs {M: Model} {Γ: Ctx} {p: Pos} {g: Nat} {r: Resume} {s s': Shared} {res: GenResult} (h: Wakes M Γ p g r s res s'): s.heap.objs.size ≤ s'.heap.objs.size := by
 unfold Wakes at h
 rcases hg: s.gens[g]? with uu | x
 ·rw [hg] at h; exact (h: False).elim
 rw [hg] at h
 cases x with
 | fresh c =>
  cases r with
  | throw x => rw [h.2]; exact Nat.le_refl _
  | send v =>
   cases v with
   | none => obtain ⟨e₁, s₁, hr, uu, uu, rfl⟩ := h; exact (runs_hs hr: (s.setGen g .running).heap.objs.size ≤ s₁.heap.objs.size)
   | _ => rw [h.2]; exact Nat.le_refl _
 | suspended k0 a c0 p0 fs b => obtain ⟨e₁, s₁, hr, uu, uu, rfl⟩ := h; exact (runs_hs hr: (s.setGen g .running).heap.objs.size ≤ s₁.heap.objs.size)
 | _ => rw [h.2]; exact Nat.le_refl _
theorem wp_hs {α: Type} (M: Model) (Γ: Ctx) (n: Nat) (t: Sem α): ∀ (Q: α → Pos → Shared → Prop) (E: Value → Pos → Shared → Prop) (p: Pos) (s: Shared), n ≤ s.heap.objs.size → Sem.wp M Γ t Q E p s →
  Sem.wp M Γ t (fun a p' s' => n ≤ s'.heap.objs.size ∧ Q a p' s') (fun e p' s' => n ≤ s'.heap.objs.size ∧ E e p' s') p s := by
 induction t with
 | pure a => intro Q E p s hn h; exact ⟨hn, h⟩
 | raise e => intro Q E p s hn h; exact ⟨hn, h⟩
 | unsupported uu => intro Q E p s uu h; exact h
 | finish uu => intro Q E p s uu h; exact h
 | rule uu k ih => intro Q E p s hn h; exact ih () Q E p s hn h
 | «at» p' k ih => intro Q E p s hn h; exact ih () Q E p' s hn h
 | load a uu k ih => intro Q E p s hn h; obtain ⟨o, ho, h⟩ := h; exact ⟨o, ho, ih o Q E p s hn h⟩
 | update a uu f k ih => intro Q E p s hn h; exact ⟨h.1, ih () Q E p _ (by rw [Heap.size_after_update]; exact hn) h.2⟩
 | loadIfAlive a k ih => intro Q E p s hn h; exact ih _ Q E p s hn h
 | point uu k ih => intro Q E p s hn h; exact ih () Q E p s hn h
 | register uu uu => intro Q E p s uu h; exact h
 | alloc o k ih => intro Q E p s hn h; exact ih _ Q E p _ (by rw [Heap.size_push]; exact Nat.le_succ_of_le hn) h
 | fresh k ih => intro Q E p s hn h; exact ih _ Q E p _ hn h
 | ask k ih => intro Q E p s hn h; exact ih _ Q E p s hn h
 | choose src m k ih => intro Q E p s hn h; exact ⟨h.1, ih _ Q E p _ hn h.2⟩
 | os q uu k ih => intro Q E p s hn h; exact ih _ Q E p _ hn h
 | call c hd uu uu k ih => intro Q E p s hn h; obtain ⟨r, s', hr, h⟩ := h; exact ⟨r, s', hr, ih r Q E p s' (Nat.le_trans hn (returns_hs hr)) h⟩
 | handled own k ih => intro Q E p s hn h; exact ih _ Q E p s hn h
 | genState g k ih => intro Q E p s hn h; obtain ⟨st, hs, h⟩ := h; exact ⟨st, hs, ih _ Q E p s hn h⟩
 | newGen c k ih => intro Q E p s hn h; exact ih _ Q E p _ hn h
 | resume g r uu k ih => intro Q E p s hn h; obtain ⟨res, s', hw, h⟩ := h; exact ⟨res, s', hw, ih res Q E p s' (Nat.le_trans hn (wakes_hs hw)) h⟩
 | yield uu uu uu uu => intro Q E p s uu h; exact h
 | stack k ih => intro Q E p s hn h; exact ih _ Q E p s hn h
 | fork uu uu => intro Q E p s uu h; exact h
 | thread k ih => intro Q E p s hn h; exact ih _ Q E p s hn h
 | await uu uu uu uu uu => intro Q E p s uu h; exact h
theorem sized {α: Type} {M: Model} {A: Around} {s: Shared} {t: Sem α} {Q: α → Shared → Prop} {E: Value → Shared → Prop}
  (h: wpAny M A t (fun a s' => s.heap.objs.size ≤ s'.heap.objs.size → Q a s') E s): wpAny M A t Q E s :=
 fun Γ p hΓ => Sem.wp_mono M Γ t (fun uu uu uu x => x.2 x.1) (fun uu uu uu x => x.2) p s (wp_hs M Γ _ t _ _ p s (Nat.le_refl _) (h Γ p hΓ))
theorem Gr.fresh {X: Addr → Prop} {fp: List Addr} {H H1 H2: MH} {s s1 s2: Shared} (a: Gr X H s H1 s1) (b: Gr (fun c => X c ∨ c ∈ fp) H1 s1 H2 s2) (hf: ∀ c ∈ fp, s.heap.objs.size ≤ c): Gr X H s H2 s2 := by
 have nf: ∀ c o, s.heap.get? c = some o → c ∉ fp := fun c o e q => absurd (Heap.lt_size e) (Nat.not_lt.mpr (hf c q))
 refine ⟨by rw [b.same, a.same], ⟨fun c o e n nx k => ?_, fun c o e n nx => ?_, fun c e => b.ext.dom c (a.ext.dom c e), fun c => Nat.le_trans (a.ext.ver c) (b.ext.ver c), fun c o e n q => ?_, fun c e => ?_, Nat.le_trans a.ext.size b.ext.size⟩⟩
 ·exact b.ext.keep c o (a.ext.keep c o e n nx k) (a.ext.none' e n) (fun q => q.elim nx (nf c o e)) k
 ·obtain ⟨o1, e1, d1, c1⟩ := a.ext.fkeep c o e n nx
  obtain ⟨o2, e2, d2, c2⟩ := b.ext.fkeep c o1 e1 (a.ext.none' e n) (fun q => q.elim nx (nf c o e))
  exact ⟨o2, e2, d2.trans d1, c2.trans c1⟩
 ·have h1 := a.ext.ver c
  have h2 := b.ext.ver c
  exact b.ext.same c o (a.ext.same c o e n (by lia)) (a.ext.dom c n) (by lia)
 ·rcases b.ext.new c e with q | q
  ·exact a.ext.new c q
  ·exact .inr (Nat.le_trans a.ext.size q)
section
variable (w: World) (B: Heap)
noncomputable def AsgX (X: Addr → Prop) (env: Env) (d: Nat) (target: Expr) (x: V) (ρ ρ': Rho): Prop :=
 ∀ (A: Around) (fr: List Env) (H: MH) (s: Shared) (val: Value) (E: Value → Shared → Prop) (Q': Unit → Shared → Prop), AOk d fr A → HS w B fr H s → Vars B env ρ H s.heap → VR s.heap val x →
  (∀ s', Gr X H s H s' → HS w B fr H s' → Vars B env ρ' H s'.heap → Q' () s') → wpAny (model prg w) A (assign target env val) Q' E s
noncomputable abbrev Asg (env: Env) (d: Nat) (target: Expr) (x: V) (ρ ρ': Rho): Prop := AsgX w B (Own env) env d target x ρ ρ'
noncomputable abbrev AsgL (env: Env) (d: Nat) (target: Expr) (x: V) (ρ ρ': Rho): Prop := AsgX w B (· = env.locals) env d target x ρ ρ'
end
section
variable {w: World} {B: Heap} {env: Env} {d: Nat} {ρ: Rho}
noncomputable abbrev Kept (env: Env) (x: Str): Prop := env.kindOf x = some .local ∨ (env.kindOf x = some .cell ∧ (env.cells.lookup x).isSome = true)
theorem Asg.name {x: Str} {pos: Pos} {v: V} (hx: Kept env x): Asg w B env d (.Name x pos) v ρ (ρ.set x v) :=
 fun uu uu uu uu uu uu uu uu S W r K => wpAny_assign_Name (store_name S W r hx K)
theorem ownSeq {H: MH} {h: Heap} (W: Vars B env ρ H h): ∀ a o, Own env a → h.get? a = some o → ∀ xs n, o.data ≠ .seq xs n := by
 rintro a o (rfl | ⟨x, hx⟩) e xs n q
 ·obtain ⟨m, ⟨o', es, ep, e', d', uu⟩, uu⟩ := W.ns
  rw [e] at e'; obtain rfl := Option.some.inj e'; rw [d'] at q; cases q
 ·obtain ⟨ov, o', e', d'⟩ := W.cells x a hx
  rw [e] at e'; obtain rfl := Option.some.inj e'; rw [d'] at q; cases q
theorem Asg.pair {x y: Str} {px py pt: Pos} {k: Nat} {u v: V} (hx: Kept env x) (hy: Kept env y): Asg w B env d (.Tuple [.Name x px, .Name y py] k pt) (.tup [u, v]) ρ ((ρ.set x u).set y v) := by
 intro A fr H s val E Q' a S W r K
 obtain ⟨l, vals, n, rfl, e, rs⟩ := r.itup
 obtain ⟨v1, vs, rfl, r1, rs⟩ := rs.icons
 obtain ⟨v2, vs, rfl, r2, rs⟩ := rs.icons
 obtain rfl := rs.inil
 show wpAny _ _ (do standAt pt; unpack (.ref l) (assignEach [.Name x px, .Name y py] env)) Q' E s
 refine wpAny_bind (wpAny_standAt ?_)
 unfold unpack
 refine wpAny_bind (wpAny_holding (sized (wpAny_unpackItems_tuple (items := #[v1, v2]) a.handled ⟨_, e, rfl, n, rfl⟩ fun h' hx' hz => ?_)))
 have kp: Keep s.heap h' := fun b o q => hx' b o (Nat.ne_of_lt (Heap.lt_size q)) q
 have S1: HS w B fr H { s with heap := h' } := S.keep (t := s.toks) kp hz
 have g1: Gr NoX H s H { s with heap := h' } := Gr.keep (t := s.toks) kp hz
 have W1: Vars B env ρ H h' := W.gr S g1
 refine wpAny_assignInOrder_more (wpAny_assign_Name (store_name (s := { s with heap := h' }) S1 W1 (VR.mono' (Keep.tup kp) r1) hx fun s2 g2 S2 W2 => ?_))
 refine wpAny_assignInOrder_more (wpAny_assign_Name (store_name S2 W2 ?_ hy fun s3 g3 S3 W3 => wpAny_assignInOrder_none (K _ ((g1.up.trans g2).trans g3) S3 W3)))
 exact VR.mono' (S1.tupKeep g2.ext (ownSeq W1)) (VR.mono' (Keep.tup kp) r2)
theorem AsgL.name {x: Str} {pos: Pos} {v: V} (hx: env.kindOf x = some .local): AsgL w B env d (.Name x pos) v ρ (ρ.set x v) :=
 fun uu uu uu uu uu uu uu uu S W r K => wpAny_assign_Name (store_local S W r hx K)
theorem AsgL.pair {x y: Str} {px py pt: Pos} {k: Nat} {u v: V} (hx: env.kindOf x = some .local) (hy: env.kindOf y = some .local): AsgL w B env d (.Tuple [.Name x px, .Name y py] k pt) (.tup [u, v]) ρ ((ρ.set x u).set y v) := by
 intro A fr H s val E Q' a S W r K
 obtain ⟨l, vals, n, rfl, e, rs⟩ := r.itup
 obtain ⟨v1, vs, rfl, r1, rs⟩ := rs.icons
 obtain ⟨v2, vs, rfl, r2, rs⟩ := rs.icons
 obtain rfl := rs.inil
 show wpAny _ _ (do standAt pt; unpack (.ref l) (assignEach [.Name x px, .Name y py] env)) Q' E s
 refine wpAny_bind (wpAny_standAt ?_)
 unfold unpack
 refine wpAny_bind (wpAny_holding (sized (wpAny_unpackItems_tuple (items := #[v1, v2]) a.handled ⟨_, e, rfl, n, rfl⟩ fun h' hx' hz => ?_)))
 have kp: Keep s.heap h' := fun b o q => hx' b o (Nat.ne_of_lt (Heap.lt_size q)) q
 have S1: HS w B fr H { s with heap := h' } := S.keep (t := s.toks) kp hz
 have g1: Gr NoX H s H { s with heap := h' } := Gr.keep (t := s.toks) kp hz
 have W1: Vars B env ρ H h' := W.gr S g1
 refine wpAny_assignInOrder_more (wpAny_assign_Name (store_local (s := { s with heap := h' }) S1 W1 (VR.mono' (Keep.tup kp) r1) hx fun s2 g2 S2 W2 => ?_))
 refine wpAny_assignInOrder_more (wpAny_assign_Name (store_local S2 W2 ?_ hy fun s3 g3 S3 W3 => wpAny_assignInOrder_none (K _ ((g1.up.trans g2).trans g3) S3 W3)))
 exact VR.mono' (S1.tupKeep g2.ext (fun a o ha => ownSeq W1 a o (.inl ha))) (VR.mono' (Keep.tup kp) r2)
end
end Mine.Internal
end
section
open PySem PySem.W PySem.Calls PyProof.Rows
namespace Mine.Internal
section
variable {w: World} {B: Heap} {fr: List Env} {H: MH} {s: Shared}
theorem frNot (S: HS w B fr H s) {fp: List Addr} (hf: ∀ b ∈ fp, ∀ o, s.heap.get? b = some o → ∃ vs, o.data = .fields vs) {env: Env} (he: env ∈ fr) {L: Addr} (hL: env.frame = some L): L ∉ fp := by
 intro hm
 have: ∀ {l: List Env}, s.heap.FunFrames B l → env ∈ l → ∃ o, s.heap.get? L = some o ∧ ∀ vs, o.data ≠ .fields vs := by
  intro l
  induction l with
  | nil => intro uu he; cases he
  | cons e r ih =>
   rintro ⟨uu, ⟨L1, o1, f1, uu, g1, d1⟩, hr⟩ he
   rcases List.mem_cons.mp he with rfl | he
   ·rw [hL] at f1; obtain rfl := Option.some.inj f1; exact ⟨o1, g1, d1⟩
   ·exact ih hr he
 obtain ⟨o, e, d⟩ := this S.frs he
 obtain ⟨vs, q⟩ := hf L hm o e
 exact d vs q
theorem HS.priv (S: HS w B fr H s) {fp: List Addr} {h': Heap} {t: Nat} (hH: ∀ b ∈ fp, H.o b = none) (hB: ∀ b ∈ fp, B.get? b = none)
  (hf: ∀ b ∈ fp, ∀ o, s.heap.get? b = some o → ∃ vs, o.data = .fields vs) (kp: ∀ b o, b ∉ fp → s.heap.get? b = some o → h'.get? b = some o) (hz: s.heap.objs.size ≤ h'.objs.size) :
  HS w B fr H { s with heap := h', toks := t } ∧ Gr (· ∈ fp) H s H { s with heap := h', toks := t } ∧ TupKeep s.heap h' := by
 have kt: TupKeep s.heap h' := fun b o e c ⟨xs, n, hs⟩ => kp b o (fun q => by obtain ⟨vs, hv⟩ := hf b q o e; rw [hs] at hv; cases hv) e
 have ne: ∀ b, H.o b ≠ none → b ∉ fp := fun b e q => e (hH b q)
 refine ⟨⟨fun b o e => kp b o (fun q => by rw [hB b q] at e; exact nsF e) (S.base b o e), S.sep, fun b mo e => (S.rep b mo e).fr (fun o e' => kp b o (ne b (by rw [e]; simp)) e') kt,?_, S.frsep, fun env he L hL => let ⟨o, e, c⟩ := S.frc env he L hL; ⟨o, kp L o (frNot S hf he hL) e, c⟩, fun b e => Nat.lt_of_lt_of_le (S.lt b e) hz, Nat.lt_of_lt_of_le S.low.1 hz, S.low.2⟩,
  ⟨rfl, ⟨fun b o e uu nx uu => kp b o nx e, fun b o e uu nx => ⟨o, kp b o nx e, rfl, rfl⟩, fun uu e => e, fun uu => Nat.le_refl _, fun b o e m uu => kp b o (ne b m) e, fun uu e => .inl e, hz⟩⟩, kt⟩
 have: ∀ {l: List Env}, s.heap.FunFrames B l → h'.FunFrames B l := by
  intro l
  induction l with
  | nil => intro uu; trivial
  | cons e r ih =>
   rintro ⟨p1, ⟨L1, o1, f1, n1, g1, d1⟩, hr'⟩
   exact ⟨p1, ⟨L1, o1, f1, n1, kp L1 o1 (fun q => by obtain ⟨vs, hv⟩ := hf L1 q o1 g1; exact d1 vs hv) g1, d1⟩, ih hr'⟩
 exact this S.frs
end
structure Wk (w: World) (B: Heap) (d: Nat) (target: Expr) (I: Addr) (xs: List V) (C: MH → Prop) (fp: List Addr) (St: Nat → Heap → Prop): Prop where
 stable: ∃ dp: List Addr, (∀ H H', C H → C H' → ∀ b ∈ dp, H.o b ≠ none ∧ H'.ver b = H.ver b) ∧ ∀ i h h', St i h → TupKeep h h' → (∀ b ∈ fp, ∀ o, h.get? b = some o → h'.get? b = some o) →
  (∀ b ∈ dp, ∀ o, h.get? b = some o → h'.get? b = some o) → St i h'
 priv: ∀ i h, St i h → ∀ b ∈ fp, ∃ o vs, h.get? b = some o ∧ o.cls ≠ .type "frame" ∧ o.data = .fields vs
 item: ∀ (i: Nat) (x: V) (A: Around) (fr: List Env) (H: MH) (s: Shared) (E: Value → Shared → Prop) (Q': Option Value → Shared → Prop), AOk d fr A → HS w B fr H s → C H →
  (∀ b ∈ fp, H.o b = none) → (∀ b ∈ fp, B.get? b = none) → St i s.heap → xs[i]? = some x →
  (∀ val s', (∀ (E2: Value → Shared → Prop) (Q2: Unit → Shared → Prop), (∀ s2, Gr (· ∈ fp) H s H s2 → HS w B fr H s2 → St (i + 1) s2.heap → VR s2.heap val x → Q2 () s2) →
    wpAny (model prg w) A (letOwnedTupleGo target (.ref I) val) Q2 E2 s') → Q' (some val) s') →
  wpAny (model prg w) A (pyNext (.ref I)) Q' E s
 done: ∀ (A: Around) (fr: List Env) (H: MH) (s: Shared) (E: Value → Shared → Prop) (Q': Option Value → Shared → Prop), AOk d fr A → HS w B fr H s → C H →
  (∀ b ∈ fp, H.o b = none) → (∀ b ∈ fp, B.get? b = none) → St xs.length s.heap →
  (∀ s', Gr (· ∈ fp) H s H s' → HS w B fr H s' → Q' none s') → wpAny (model prg w) A (pyNext (.ref I)) Q' E s
 self: ∀ (i: Nat) (A: Around) (s: Shared) (Q: Value → Shared → Prop) (E: Value → Shared → Prop), St i s.heap → Q (.ref I) s → wpAny (model prg w) A (pyIter (.ref I)) Q E s
section
variable (w: World) (B: Heap)
noncomputable def Itb (d: Nat) (target: Expr) (v: V) (H: MH) (xs: List V) (C: MH → Prop): Prop :=
 ∀ (A: Around) (fr: List Env) (s: Shared) (val: Value) (E Q': Value → Shared → Prop), AOk d fr A → HS w B fr H s → VR s.heap val v →
  (∀ I fp St s', Wk w B d target I xs C fp St → St 0 s'.heap → (∀ b ∈ fp, s.heap.objs.size ≤ b) → Gr NoX H s H s' → HS w B fr H s' → Q' (.ref I) s') → wpAny (model prg w) A (pyIter val) Q' E s
noncomputable def Its (env: Env) (d: Nat) (iter target: Expr) (ρ: Rho) (H: MH) (Q: List V → (MH → Prop) → MH → Prop): Prop :=
 ∀ (A: Around) (fr: List Env) (s: Shared) (E Q': Value → Shared → Prop), AOk d fr A → HS w B fr H s → Vars B env ρ H s.heap →
  (∀ I xs C fp St H' s', Wk w B d target I xs C fp St → St 0 s'.heap → (∀ b ∈ fp, s.heap.objs.size ≤ b) → (∀ b ∈ fp, H'.o b = none) → Gr NoX H s H' s' → HS w B fr H' s' → Q xs C H' → Q' (.ref I) s') →
  wpAny (model prg w) A (eval iter env) (fun x s₁ => wpAny (model prg w) A (pyIter x) Q' E s₁) E s
end
section
variable {w: World} {B: Heap} {env: Env} {d: Nat} {ρ: Rho} {H: MH}
theorem Wk.noH {d: Nat} {target: Expr} {I: Addr} {xs: List V} {C: MH → Prop} {fp: List Addr} {St: Nat → Heap → Prop} (K: Wk w B d target I xs C fp St) {fr: List Env} {s: Shared} {i: Nat} (S: HS w B fr H s) (st: St i s.heap): ∀ b ∈ fp, H.o b = none := by
 intro b hb
 obtain ⟨o, vs, e, uu, hd⟩ := K.priv i _ st b hb
 cases q: H.o b with
 | none => rfl
 | some mo =>
  exfalso
  have := S.rep b mo q
  cases mo with
  | list xs => obtain ⟨vals, ⟨n, e'⟩, uu⟩ := this; rw [e] at e'; obtain rfl := Option.some.inj e'; cases hd
  | poly p => obtain ⟨ys, ⟨o', es, ep, e', uu, hd', uu⟩, uu⟩ := this; rw [e] at e'; obtain rfl := Option.some.inj e'; rw [hd] at hd'; cases hd'
theorem Its.of_ev {iter target: Expr} {Q: List V → (MH → Prop) → MH → Prop} (h: Ev w B env d iter ρ H fun v H1 => ∃ xs C, Itb w B d target v H1 xs C ∧ Q xs C H1): Its w B env d iter target ρ H Q := by
 intro A fr s E Q' a S W K
 refine h A fr s E _ a S W fun val v H1 s1 g1 S1 r1 zz => ?_
 obtain ⟨xs, C, hi, q⟩ := zz
 refine hi A fr s1 val E Q' a S1 r1 fun I fp St s' wk st hf g' S' => ?_
 exact K I xs C fp St H1 s' wk st (fun b hb => Nat.le_trans g1.ext.size (hf b hb)) (wk.noH S' st) (g1.trans g') S' q
theorem letGo_name {x: Str} {px: Pos} {it v: Value}: letOwnedTupleGo (.Name x px) it v = pure () := rfl
theorem stepPriv {fr: List Env} {s: Shared} {I: Addr} {h': Heap} {t: Nat} (S: HS w B fr H s) (hH: ∀ b ∈ [I], H.o b = none) (hB: ∀ b ∈ [I], B.get? b = none) (hf: ∀ o, s.heap.get? I = some o → ∃ vs, o.data = .fields vs)
  (kp: ∀ b o, b ≠ I → s.heap.get? b = some o → h'.get? b = some o) (hz: s.heap.objs.size ≤ h'.objs.size) :
  HS w B fr H { s with heap := h', toks := t } ∧ Gr (· ∈ [I]) H s H { s with heap := h', toks := t } ∧ TupKeep s.heap h' :=
 S.priv hH hB (fun b hb o e => by rw [List.mem_singleton] at hb; subst hb; exact hf o e) (fun b o nb e => kp b o (fun q => nb (by simp [q])) e) hz
theorem Itb.list {x: Str} {px: Pos} {l: Addr} {xs: List V} (hl: H.o l = some (.list xs)): Itb w B d (.Name x px) (.ref l) H xs (fun H' => H'.o l = some (.list xs)) := by
 intro A fr s val E Q' a S r K
 obtain rfl := r.iref
 obtain ⟨vals, ⟨n, e⟩, rs⟩ := S.rep l _ hl
 have hL: s.heap.IsList l vals.toArray := ⟨_, e, rfl, n, rfl⟩
 have kp := Keep.push s.heap { cls := .type "list_iterator", data := .fields #[.ref l, .int 0 0] }
 refine wpAny_pyIter_list hL (K _ [s.heap.objs.size] (fun i h => h.IsListIter s.heap.objs.size l i) _ ?_ ⟨_, Heap.get?_push_size _ rfl, rfl, rfl⟩ (fun b hb => by rw [List.mem_singleton] at hb; rw [hb]; exact Nat.le_refl _) (Gr.keep (t := s.toks) kp (by simp)) (S.keep (t := s.toks) kp (by simp)))
 refine gen_ s.heap.objs.size ?_
 intro I
 refine ⟨⟨[], by simp, fun i h h' st uu k uu => st.at fun o e => k I (by simp) o e⟩, fun i h st b hb => ?_, fun i x A fr H s E Q' a S hc hH hB st hx K => ?_, fun A fr H s E Q' a S hc hH hB st K => ?_, fun i A s Q E st q => wpAny_pyIter_listiter st q⟩
 ·simp at hb; subst hb
  obtain ⟨o, e, c, dd⟩ := st
  exact ⟨o, _, e, by rw [c]; decide, dd⟩
 ·obtain ⟨vals, ⟨n, e⟩, rs⟩ := S.rep l _ hc
  obtain ⟨v, hv, rv⟩ := rs.get hx
  have hf: ∀ o, s.heap.get? I = some o → ∃ vs, o.data = .fields vs := fun o e' => by obtain ⟨o2, e2, c2, d2⟩ := st; rw [e'] at e2; obtain rfl := Option.some.inj e2; exact ⟨_, d2⟩
  refine sized (wpAny_pyNext_list_item st ⟨_, e, rfl, n, rfl⟩ (by simpa using hv) fun h' st' sb hz => ?_)
  obtain ⟨S', g, kt⟩ := stepPriv (t := s.toks) S hH hB hf sb.extBut hz
  exact K v _ fun E2 Q2 k2 => wpAny_of_eq letGo_name (k2 _ g S' st' (VR.mono' kt rv))
 ·obtain ⟨vals, ⟨n, e⟩, rs⟩ := S.rep l _ hc
  have hf: ∀ o, s.heap.get? I = some o → ∃ vs, o.data = .fields vs := fun o e' => by obtain ⟨o2, e2, c2, d2⟩ := st; rw [e'] at e2; obtain rfl := Option.some.inj e2; exact ⟨_, d2⟩
  refine sized (wpAny_pyNext_list_end a.handled st ⟨_, e, rfl, n, rfl⟩ (by simp [rs.length]) fun h' sb hz => ?_)
  obtain ⟨S', g, kt⟩ := stepPriv (t := s.toks) S hH hB hf sb hz
  exact K _ g S'
theorem Itb.tup {x: Str} {px: Pos} {xs: List V}: Itb w B d (.Name x px) (.tup xs) H xs (fun uu => True) := by
 intro A fr s val E Q' a S r K
 obtain ⟨l, vals, n, rfl, e, rs⟩ := r.itup
 have hL: s.heap.IsTuple l vals.toArray := ⟨_, e, rfl, n, rfl⟩
 have kp := Keep.push s.heap { cls := .type "tuple_iterator", data := .fields #[.ref l, .int 0 0] }
 refine wpAny_pyIter_tuple hL (K _ [s.heap.objs.size] (fun i h => h.IsTupleIter s.heap.objs.size l i ∧ h.get? l = some { cls := .type "tuple", data := .seq vals.toArray n } ∧ VRs h vals xs) _ ?_ ⟨⟨_, Heap.get?_push_size _ rfl, rfl, rfl⟩, kp _ _ e, VRs.mono' (Keep.tup kp) rs⟩ (fun b hb => by rw [List.mem_singleton] at hb; rw [hb]; exact Nat.le_refl _) (Gr.keep (t := s.toks) kp (by simp)) (S.keep (t := s.toks) kp (by simp)))
 refine gen_ s.heap.objs.size ?_
 intro I
 refine ⟨⟨[], by simp, fun i h h' st kt k uu => ⟨st.1.at fun o e => k I (by simp) o e, kt _ _ st.2.1 rfl ⟨_, _, rfl⟩, VRs.mono' kt st.2.2⟩⟩, fun i h st b hb => ?_, fun i x A fr H s E Q' a S hc hH hB st hx K => ?_, fun A fr H s E Q' a S hc hH hB st K => ?_, fun i A s Q E st q => wpAny_pyIter_tupleiter st.1 q⟩
 ·simp at hb; subst hb
  obtain ⟨⟨o, e, c, dd⟩, uu⟩ := st
  exact ⟨o, _, e, by rw [c]; decide, dd⟩
 ·obtain ⟨st, e, rs⟩ := st
  obtain ⟨v, hv, rv⟩ := rs.get hx
  have hf: ∀ o, s.heap.get? I = some o → ∃ vs, o.data = .fields vs := fun o e' => by obtain ⟨o2, e2, c2, d2⟩ := st; rw [e'] at e2; obtain rfl := Option.some.inj e2; exact ⟨_, d2⟩
  refine sized (wpAny_pyNext_tuple_item st ⟨_, e, rfl, n, rfl⟩ (by simpa using hv) fun h' st' sb hz => ?_)
  obtain ⟨S', g, kt⟩ := stepPriv (t := s.toks) S hH hB hf sb.extBut hz
  exact K v _ fun E2 Q2 k2 => wpAny_of_eq letGo_name (k2 _ g S' ⟨st', kt _ _ e rfl ⟨_, _, rfl⟩, VRs.mono' kt rs⟩ (VR.mono' kt rv))
 ·obtain ⟨st, e, rs⟩ := st
  have hf: ∀ o, s.heap.get? I = some o → ∃ vs, o.data = .fields vs := fun o e' => by obtain ⟨o2, e2, c2, d2⟩ := st; rw [e'] at e2; obtain rfl := Option.some.inj e2; exact ⟨_, d2⟩
  refine sized (wpAny_pyNext_tuple_end a.handled st ⟨_, e, rfl, n, rfl⟩ (by simp [rs.length]) fun h' sb hz => ?_)
  obtain ⟨S', g, kt⟩ := stepPriv (t := s.toks) S hH hB hf sb hz
  exact K _ g S'
end
end Mine.Internal
end
section
open PySem PySem.W PySem.Calls PyProof.Rows
namespace Mine.Internal
section
variable {w: World} {B: Heap} {env: Env} {d: Nat} {ρ: Rho} {H: MH} {Q: Post} {X: MH → Prop} {fr: List Env}
theorem Vars.own_lt {h: Heap} (W: Vars B env ρ H h): ∀ a, Own env a → a < h.objs.size := by
 rintro a (rfl | ⟨x, hx⟩)
 ·obtain ⟨m, hm, uu⟩ := W.ns; exact hm.lt
 ·obtain ⟨ov, o, e, uu⟩ := W.cells x a hx; exact Heap.lt_size e
theorem Vars.gx {H': MH} {s s': Shared} {Y: Addr → Prop} (W: Vars B env ρ H s.heap) (g: Gr Y H s H' s') (hY: ∀ a, Own env a → ¬ Y a) (kt: TupKeep s.heap s'.heap): Vars B env ρ H' s'.heap := by
 have fk: ∀ a, Own env a → ∀ o, s.heap.get? a = some o → ∃ o', s'.heap.get? a = some o' ∧ o'.data = o.data ∧ o'.cls = o.cls := fun a ha o e => g.ext.fkeep a o e (W.own a ha).1 (hY a ha)
 have ol: Own env env.locals := .inl rfl
 have oc: ∀ x c, env.cells.lookup x = some c → Own env c := fun x c e => .inr ⟨x, e⟩
 refine ⟨W.hkind, W.hglob, W.hblt,?_, fun x c hm => ?_, W.apart, fun a ha => ⟨?_, (W.own a ha).2⟩⟩
 ·obtain ⟨m, hm, hv⟩ := W.ns
  refine ⟨m, Ns.fk hm (fk _ ol), fun x v e => ?_⟩
  obtain ⟨val, r, q⟩ := hv x v e
  refine ⟨val, VR.mono' kt r,?_⟩
  rcases q with q | ⟨k, c, hc, hi⟩
  ·exact .inl q
  ·exact .inr ⟨k, c, hc, IsCell.fk hi (fk _ (oc x c hc))⟩
 ·obtain ⟨ov, hi⟩ := W.cells x c hm
  exact ⟨ov, IsCell.fk hi (fk _ (oc x c hm))⟩
 ·have n := (W.own a ha).1
  rcases ha with rfl | ⟨x, hx⟩
  ·obtain ⟨m, ⟨o, uu, uu, e, uu⟩, uu⟩ := W.ns; exact g.ext.none' e n
  ·obtain ⟨ov, o, e, uu⟩ := W.cells x a hx; exact g.ext.none' e n
theorem Gr.weak2 {H H': MH} {s s': Shared} {X Y: Addr → Prop} (g: Gr X H s H' s'): Gr (fun c => X c ∨ Y c) H s H' s' := g.weaken fun uu h => .inl h
theorem Gr.weak3 {H H': MH} {s s': Shared} {X Y: Addr → Prop} (g: Gr Y H s H' s'): Gr (fun c => X c ∨ Y c) H s H' s' := g.weaken fun uu h => .inr h
theorem Shared.eta (s: Shared): ({ s with heap := s.heap, toks := s.toks }: Shared) = s := rfl
theorem HS.slots {s: Shared} (S: HS w B fr H s) {h': Heap} {t: Nat} (x: Heap.SlotsOnly (fr.filterMap (·.frame)) s.heap h') :
  HS w B fr H { s with heap := h', toks := t } ∧ Gr NoX H s H { s with heap := h', toks := t } ∧ TupKeep s.heap h' := by
 have mem: ∀ {b: Addr}, b ∈ fr.filterMap (·.frame) → ∃ env ∈ fr, env.frame = some b := fun hb => by
  obtain ⟨env, he, hf⟩ := List.mem_filterMap.mp hb; exact ⟨env, he, hf⟩
 have nB: ∀ b o, B.get? b = some o → b ∉ fr.filterMap (·.frame) := fun b o e q => by rw [(S.frs.mem q).1] at e; exact nsF e
 have nH: ∀ b, H.o b ≠ none → b ∉ fr.filterMap (·.frame) := fun b e q => by obtain ⟨env, he, hf⟩ := mem q; exact e (S.frsep env he b hf)
 have nC: ∀ b o, s.heap.get? b = some o → o.cls ≠ .type "frame" → b ∉ fr.filterMap (·.frame) := fun b o e c q => by
  obtain ⟨env, he, hf⟩ := mem q
  obtain ⟨o', e', c'⟩ := S.frc env he b hf
  rw [e] at e'; obtain rfl := Option.some.inj e'; exact c c'
 have kt: TupKeep s.heap h' := fun b o e c uu => (x.2.1 b (nC b o e (by rw [c]; decide))).trans e
 refine ⟨⟨fun b o e => (x.2.1 b (nB b o e)).trans (S.base b o e), S.sep, fun b mo e => (S.rep b mo e).fr (fun o e' => (x.2.1 b (nH b (by rw [e]; simp))).trans e') kt, S.frs.of_slotsOnly x, S.frsep, fun env he L hL => ?_, fun b e => by show b < h'.objs.size; rw [x.1]; exact S.lt b e, by show sysModules < h'.objs.size; rw [x.1]; exact S.low.1, S.low.2⟩,
  ⟨rfl, ⟨fun b o e uu uu c => (x.2.1 b (nC b o e c)).trans e, fun b o e uu uu => ?_, fun uu e => e, fun uu => Nat.le_refl _, fun b o e m uu => (x.2.1 b (nH b m)).trans e, fun uu e => .inl e, Nat.le_of_eq x.1.symm⟩⟩, kt⟩
 ·obtain ⟨o, e, c⟩ := S.frc env he L hL
  obtain ⟨sl, e'⟩ := x.2.2 L o e
  exact ⟨_, e', c⟩
 ·obtain ⟨sl, e'⟩ := x.2.2 b o e
  exact ⟨_, e', rfl, rfl⟩
theorem HS.recd {s: Shared} (S: HS w B fr H s) {b: Addr} {o: Obj} {vs: Array Value} {f: Array Value → Array Value} {t: Nat} (e: s.heap.get? b = some o) (hd: o.data = .fields vs) (hB: B.get? b = none) (hH: H.o b = none) :
  HS w B fr H { s with heap := s.heap.update b (Obj.mapFields f), toks := t } ∧ Gr (· ∈ [b]) H s H { s with heap := s.heap.update b (Obj.mapFields f), toks := t } ∧ TupKeep s.heap (s.heap.update b (Obj.mapFields f)) := by
 refine S.priv (fp := [b]) (fun c hc => by rw [List.mem_singleton] at hc; exact hc ▸ hH) (fun c hc => by rw [List.mem_singleton] at hc; exact hc ▸ hB) (fun c hc o' e' => ?_) (fun c o' hc e' => ?_) (by rw [Heap.size_after_update]; exact Nat.le_refl _)
 ·rw [List.mem_singleton] at hc; subst hc; rw [e] at e'; obtain rfl := Option.some.inj e'; exact ⟨vs, hd⟩
 ·exact (Heap.get?_update_other _ _ (fun q => hc (by rw [q]; exact .head _))).trans e'
theorem Vars.recd {s s': Shared} {b: Addr} (W: Vars B env ρ H s.heap) (g: Gr (· ∈ [b]) H s H s') (hb: ¬ Own env b) (kt: TupKeep s.heap s'.heap): Vars B env ρ H s'.heap :=
 W.gx g (fun a ha q => hb (by rw [List.mem_singleton] at q; exact q ▸ ha)) kt
noncomputable def Trc (e: Addr) (h: Heap): Prop := ∃ oe vs T, h.get? e = some oe ∧ oe.data = .fields vs ∧ vs[1]? = some (.ref T)
theorem entry {A: Around} {s: Shared} {outer: List Env} {E: Value → Shared → Prop} {Q: Unit → Shared → Prop} {L e: Addr} {lo: Nat} {head: Value} {hadNext: Bool} {oe: Obj} {vs: Array Value}
  (S: HS w B (env :: outer) H s) (W: Vars B env ρ H s.heap) (hfr: A.frames = some (env :: outer)) (hf: env.frame = some L)
  (he: s.heap.get? e = some oe) (hc: oe.cls = .ref 31) (hd: oe.data = .fields vs) (hsz: 1 < vs.size) (hB: B.get? e = none) (hH: H.o e = none) (hlo: lo ≤ e) (hO: ¬ Own env e) (hls: lo ≤ s.heap.objs.size)
  (h: ∀ s', Gr (· ∈ [e]) H s H s' → HS w B (env :: outer) H s' → Vars B env ρ H s'.heap → Rz w B env lo e H s'.heap → Trc e s'.heap → Q () s') :
  wpAny (model prg w) A (do let a ← frameOf env; let pl ← entryPlaceOf L hadNext; let b ← EntryCells.newEntry head a .none (rawInt L) .none pl; setField (.ref e) 1 b) Q E s := by
 refine wpAny_bind (wpAny_frameOf_fun hfr S.frs hf fun h₁ hs₁ => ?_)
 obtain ⟨S1, g1, kt1⟩ := S.slots (t := s.toks) hs₁
 have W1: Vars B env ρ H h₁ := W.gr S g1
 refine wpAny_bind (wpAny_entryPlaceOf fun pl hpl => ?_)
 unfold EntryCells.newEntry newFields
 refine wpAny_bind (wpAny_newObj_type ?_ (hpl.sizeOk5 _ _ _ _ _))
 dsimp only
 refine genE_ ({ cls := .type "traceback", dict := none, data := .fields ([head, .ref L, .none, rawInt L, .none] ++ (if pl.isEmpty then List.replicate 6 Value.none else pl)).toArray }: Obj) ?_
 intro ot hot
 have kp := Keep.push h₁ ot
 have S2: HS w B (env :: outer) H { s with heap := h₁.push ot } := S1.keep (t := s.toks) kp (by simp)
 have g2: Gr NoX H { s with heap := h₁ } H { s with heap := h₁.push ot } := Gr.keep (t := s.toks) kp (by simp)
 have W2: Vars B env ρ H (h₁.push ot) := W1.gr S1 g2
 have he1: h₁.get? e = some oe := g1.ext.keep e oe he hH id (by rw [hc]; exact fun q => nomatch q)
 have he2: (h₁.push ot).get? e = some oe := kp e oe he1
 refine wpAny_setField he2 hd hsz ?_
 obtain ⟨S3, g3, kt3⟩ := S2.recd (t := s.toks) (f := (·.setIfInBounds 1 (Value.ref h₁.objs.size))) he2 hd hB hH
 have W3 := W2.recd g3 hO kt3
 have hT: h₁.objs.size ≠ e := Nat.ne_of_gt (Heap.lt_size he1)
 refine h _ ((g1.up.trans g2.up).trans g3) S3 W3 ⟨hB, hH, hlo, hO, _, _, Heap.get?_update_self _ he2 (Obj.isFreed_of_fields (Obj.data_mapFields hd _)), (Obj.cls_mapFields ..).trans hc, Obj.data_mapFields hd _, by simpa using hsz, .inr ⟨h₁.objs.size, ot, _, by simp [hsz],?_,?_, by rw [← hot],?_, hT,?_,?_,?_,?_⟩⟩ ⟨_, _, h₁.objs.size, Heap.get?_update_self _ he2 (Obj.isFreed_of_fields (Obj.data_mapFields hd _)), Obj.data_mapFields hd _, by simp [hsz]⟩
 ·exact (Heap.get?_update_other _ _ (Ne.symm hT)).trans (Heap.get?_push_size _ (by rw [← hot]; rfl))
 ·rw [← hot]; show Value.type "traceback" ≠ _; decide
 ·simp only [List.size_toArray, List.length_append, List.length_cons, List.length_nil]; lia
 ·rw [hs₁.1]; exact hls
 ·exact S1.bfresh (Nat.le_refl _)
 ·exact S1.fresh
 ·exact fun q => Nat.lt_irrefl _ (W1.own_lt _ q)
theorem noted {A: Around} {s: Shared} {outer: List Env} {E: Value → Shared → Prop} {Q: Unit → Shared → Prop} {e: Addr} {lo: Nat}
  (S: HS w B (env :: outer) H s) (W: Vars B env ρ H s.heap) (hfr: A.frames = some (env :: outer)) (R: Rz w B env lo e H s.heap) (hls: lo ≤ s.heap.objs.size)
  (h: ∀ (s': Shared) (fp: List Addr), (∀ b ∈ fp, lo ≤ b) → Gr (· ∈ fp) H s H s' → HS w B (env :: outer) H s' → Vars B env ρ H s'.heap → Rz w B env lo e H s'.heap → Trc e s'.heap → Q () s') :
  wpAny (model prg w) A (noteFrame (.ref e) env) Q E s := by
 obtain ⟨uu, ⟨L, o, hf, uu⟩, uu⟩ := S.frs
 obtain ⟨oe, vs, he, hc, hd, hsz, ht⟩ := R.there
 unfold noteFrame
 simp only [hf]
 have one: ∀ b ∈ [e], lo ≤ b := fun b hb => by rw [List.mem_singleton] at hb; exact hb ▸ R.low
 rcases ht with h1 | ⟨T, oT, ts, h1, hT, hcT, hdT, h3, hTe, hlT, hBT, hHT, hOT⟩
 ·refine wpAny_bind (wpAny_field he hd h1 ?_)
  rw [if_neg (by decide)]
  exact entry S W hfr hf he hc hd hsz R.new R.noH R.low R.noOwn hls fun s' g S' W' R' tr => h s' [e] one g S' W' R' tr
 ·refine wpAny_bind (wpAny_field he hd h1 ?_)
  rw [if_pos (show (Value.ref T != Value.none) = true from by simp)]
  obtain ⟨x, hx⟩: ∃ x, ts[3]? = some x := ⟨ts[3], Array.getElem?_eq_getElem h3⟩
  refine wpAny_bind (wpAny_field hT hdT hx ?_)
  by_cases q: (x == rawInt L) = true
  ·rw [if_pos q]
   exact wpAny_pure (h s [] (by simp) (Gr.refl ..) S W R ⟨_, _, _, he, hd, h1⟩)
  ·rw [if_neg q]
   refine wpAny_bind (wpAny_setField hT hdT h3 ?_)
   obtain ⟨S1, g1, kt1⟩ := S.recd (t := s.toks) (f := (·.setIfInBounds 3 Value.none)) hT hdT hBT hHT
   have W1 := W.recd g1 hOT kt1
   refine entry S1 W1 hfr hf ((Heap.get?_update_other _ _ hTe).trans he) hc hd hsz R.new R.noH R.low R.noOwn (Nat.le_trans hls g1.ext.size) fun s' g S' W' R' tr => h s' [T, e] ?_ ((g1.weaken fun b hb => ?_).trans (g.weaken fun b hb => ?_)) S' W' R' tr
   ·intro b hb
    rcases List.mem_cons.mp hb with rfl | hb
    ·exact hlT
    ·exact one b hb
   ·rw [List.mem_singleton] at hb; rw [hb]; exact .head _
   ·exact .tail _ hb
theorem flight {A: Around} {s: Shared} {outer: List Env} {E: Value → Shared → Prop} {Q: Unit → Shared → Prop} {e: Addr} {lo: Nat} {fl: Option Addr}
  (S: HS w B (env :: outer) H s) (W: Vars B env ρ H s.heap) (R: Rz w B env lo e H s.heap)
  (h: ∀ (s': Shared) (fp: List Addr), (∀ b ∈ fp, lo ≤ b) → Gr (· ∈ fp) H s H s' → HS w B (env :: outer) H s' → Vars B env ρ H s'.heap → Rz w B env lo e H s'.heap → Q () s') :
  wpAny (model prg w) A (setFlight (.ref e) fl) Q E s := by
 obtain ⟨oe, vs, he, hc, hd, hsz, ht⟩ := R.there
 unfold setFlight
 rcases ht with h1 | ⟨T, oT, ts, h1, hT, hcT, hdT, h3, hTe, hlT, hBT, hHT, hOT⟩
 ·refine wpAny_bind (wpAny_field he hd h1 ?_)
  rw [if_neg (by decide)]
  exact wpAny_pure (h s [] (by simp) (Gr.refl ..) S W R)
 ·refine wpAny_bind (wpAny_field he hd h1 ?_)
  rw [if_pos (show (Value.ref T != Value.none) = true from by simp)]
  refine wpAny_setField hT hdT h3 ?_
  obtain ⟨S1, g1, kt1⟩ := S.recd (t := s.toks) (f := (·.setIfInBounds 3 (fl.elim Value.none fun f => rawInt f))) hT hdT hBT hHT
  refine h _ [T] (fun b hb => by rw [List.mem_singleton] at hb; exact hb ▸ hlT) g1 S1 (W.recd g1 hOT kt1) ⟨R.new, R.noH, R.low, R.noOwn, oe, vs, (Heap.get?_update_other _ _ hTe).trans he, hc, hd, hsz, .inr ⟨T, _, _, h1, Heap.get?_update_self _ hT (Obj.isFreed_of_fields (Obj.data_mapFields hdT _)),?_, Obj.data_mapFields hdT _, by simpa using h3, hTe, hlT, hBT, hHT, hOT⟩⟩
  rw [Obj.cls_mapFields]; exact hcT
end
end Mine.Internal
end
section
open PySem PySem.W PySem.Calls PyProof.Rows
namespace Mine.Internal
section
variable {w: World} {B: Heap} {env: Env} {d: Nat} {ρ: Rho} {H: MH} {Q: Post} {X: MH → Prop} {fr: List Env}
theorem Wk.tk {target: Expr} {I: Addr} {xs: List V} {C: MH → Prop} {fp: List Addr} {St: Nat → Heap → Prop} (K: Wk w B d target I xs C fp St) {H': MH} {s s': Shared} {i: Nat} (S: HS w B fr H s) (st: St i s.heap) (g: Gr (· ∈ fp) H s H' s'): TupKeep s.heap s'.heap :=
 S.tupKeep g.ext fun a o ha e xs n q => by obtain ⟨o', vs, e', uu, hd⟩ := K.priv i _ st a ha; rw [e] at e'; obtain rfl := Option.some.inj e'; rw [hd] at q; cases q
theorem Wk.own {target: Expr} {I: Addr} {xs: List V} {C: MH → Prop} {fp: List Addr} {St: Nat → Heap → Prop} (K: Wk w B d target I xs C fp St) {H': MH} {s s': Shared} {i: Nat} {Y: Addr → Prop} (S: HS w B fr H s) (st: St i s.heap) (g: Gr Y H s H' s')
  (kt: TupKeep s.heap s'.heap) (hf: ∀ b ∈ fp, ¬ Y b) (c: C H) (c': C H'): St i s'.heap := by
 obtain ⟨dp, hw, st'⟩ := K.stable
 refine st' i _ _ st kt (fun b hb o e => ?_) fun b hb o e => ?_
 ·obtain ⟨o', vs, e', hc, hd⟩ := K.priv i _ st b hb
  have n := K.noH S st b hb
  rw [e] at e'; obtain rfl := Option.some.inj e'
  exact g.ext.keep b o e n (hf b hb) hc
 ·obtain ⟨h1, h2⟩ := hw H H' c c' b hb
  exact g.ext.same b o e h1 h2
theorem Wk.keep {target: Expr} {I: Addr} {xs: List V} {C: MH → Prop} {fp: List Addr} {St: Nat → Heap → Prop} (K: Wk w B d target I xs C fp St) {i: Nat} {h h': Heap} (st: St i h) (k: Keep h h'): St i h' := by
 obtain ⟨dp, uu, st'⟩ := K.stable
 exact st' i _ _ st (Keep.tup k) (fun b uu o e => k b o e) fun b uu o e => k b o e
inductive FLI (w: World) (B: Heap) (fr: List Env) (env: Env) (H1: MH) (s1: Shared) (fp: List Addr) (St: Nat → Heap → Prop) (C: MH → Prop) (Inv: Nat → Rho → MH → Prop) (n k: Nat) (s': Shared): Prop
 | mk (i: Nat) (ρ': Rho) (H': MH) (hk: k = n + 1 - i) (hi: i ≤ n) (g2: Gr (fun c => Own env c ∨ c ∈ fp) H1 s1 H' s') (S2: HS w B fr H' s') (W2: Vars B env ρ' H' s'.heap) (st2: St i s'.heap) (hc2: C H') (inv: Inv i ρ' H')
inductive WLI (w: World) (B: Heap) (fr: List Env) (env: Env) (H: MH) (s: Shared) (Inv: Nat → Rho → MH → Prop) (k: Nat) (s': Shared): Prop
 | mk (ρ': Rho) (H': MH) (g: Gr (Own env) H s H' s') (S1: HS w B fr H' s') (W1: Vars B env ρ' H' s'.heap) (inv: Inv k ρ' H')
theorem Ex.for_ {target iter: Expr} {body: List Stmt} {pos: Pos}
  (h: Its w B env d iter target ρ H fun xs C H1 => ∃ Inv: Nat → Rho → MH → Prop, C H1 ∧ Inv 0 ρ H1 ∧
   (∀ i x ρ' H', xs[i]? = some x → C H' → Inv i ρ' H' → ∃ ρ1, Asg w B env d target x ρ' ρ1 ∧
    Exs w B env d body ρ1 H' (fun f ρ2 H2 => match f with | .next => C H2 ∧ Inv (i + 1) ρ2 H2 | .cont => C H2 ∧ Inv (i + 1) ρ2 H2 | .brk => Q .next ρ2 H2 | .ret v => Q (.ret v) ρ2 H2) fun uu => False) ∧
   (∀ ρ' H', C H' → Inv xs.length ρ' H' → Q .next ρ' H'))
  (hs: ∀ x, foldedSetIterable iter env x = pure x := by intro uu; rfl): Ex w B env d (.For target iter body [] pos) ρ H Q X := by
 intro A fr s E Q' a hE S W K KX
 refine wpAny_For (h A fr s E _ a S W fun I xs C fp St H1 s1 wk st hf hn g1 S1 zz => ?_) hs
 obtain ⟨Inv, hc, h0, turn, fin⟩ := zz
 have W1: Vars B env ρ H1 s1.heap := W.gr S g1
 have olt: ∀ c, Own env c → c ∉ fp := fun c hc q => absurd (W.own_lt c hc) (Nat.not_lt.mpr (hf c q))
 have ob: ∀ b ∈ fp, B.get? b = none := fun b hb => S.bfresh (hf b hb)
 have done: ∀ f fl ρ' H' s', Gr (fun c => Own env c ∨ c ∈ fp) H1 s1 H' s' → HS w B fr H' s' → Vars B env ρ' H' s'.heap → FR s'.heap f fl → Q fl ρ' H' → Q' f s' :=
  fun f fl ρ' H' s' g S' W' r q => K f fl ρ' H' s' (Gr.fresh g1.up g hf) S' W' r q
 refine codeAny_forLoop_any (FLI w B fr env H1 s1 fp St C Inv xs.length) ?_ (xs.length + 1)
  ⟨0, ρ, H1, rfl, Nat.zero_le _, Gr.refl .., S1, W1, st, hc, h0⟩
 rintro k s2 ⟨i, ρ2, H2, rfl, hi, g2, S2, W2, st2, hc2, inv⟩
 cases hx: xs[i]? with
 | none =>
  have hil: i = xs.length := Nat.le_antisymm hi (by simpa using hx)
  subst hil
  refine wk.done A fr H2 s2 _ _ a S2 hc2 (wk.noH S2 st2) ob st2 fun s3 g3 S3 => wpAny_execs_nil ?_
  exact done _ .next ρ2 H2 s3 (g2.trans g3.weak3) S3 (W2.gx g3 olt (wk.tk S2 st2 g3)) .next (fin ρ2 H2 hc2 inv)
 | some x =>
  have hil: i < xs.length := (List.getElem?_eq_some_iff.mp hx).1
  refine wk.item i x A fr H2 s2 _ _ a S2 hc2 (wk.noH S2 st2) ob st2 hx fun val s3 go => go _ _ fun s4 g4 S4 st4 r4 => ?_
  obtain ⟨ρ5, hasg, hbody⟩ := turn i x ρ2 H2 hx hc2 inv
  have W4 := W2.gx g4 olt (wk.tk S2 st2 g4)
  refine hasg A fr H2 s4 val _ _ a S4 W4 r4 fun s5 g5 S5 W5 => ?_
  have st5 := wk.own S4 st4 g5 (S4.tupKeep g5.ext (ownSeq W4)) (fun b hb q => olt b q hb) hc2 hc2
  refine hbody A fr s5 _ _ a hE S5 W5 (fun f fl ρ6 H6 s6 g6 S6 W6 r6 q6 => ?_) (fun uu uu uu uu uu uu uu uu q => q.elim)
  have g26: Gr (fun c => Own env c ∨ c ∈ fp) H1 s1 H6 s6 := ((g2.trans g4.weak3).trans g5.weak2).trans g6.weak2
  have st6: C H6 → St i.succ s6.heap := fun c => wk.own S5 st5 g6 (S5.tupKeep g6.ext (ownSeq W5)) (fun b hb q => olt b q hb) hc2 c
  cases r6 with
  | next => exact ⟨xs.length + 1 - (i + 1), by lia, i + 1, ρ6, H6, rfl, hil, g26, S6, W6, st6 q6.1, q6.1, q6.2⟩
  | cont => exact ⟨xs.length + 1 - (i + 1), by lia, i + 1, ρ6, H6, rfl, hil, g26, S6, W6, st6 q6.1, q6.1, q6.2⟩
  | brk => exact done _ .next ρ6 H6 s6 g26 S6 W6 .next q6
  | ret r => exact done _ (.ret _) ρ6 H6 s6 g26 S6 W6 (.ret r) q6
theorem Ex.while_ {test: Expr} {body: List Stmt} {pos: Pos} (Inv: Nat → Rho → MH → Prop) (n: Nat) (h0: Inv n ρ H)
  (turn: ∀ n ρ' H', Inv n ρ' H' → Ts w B env d test ρ' H' fun b H1 => if b then Exs w B env d body ρ' H1 (fun f ρ2 H2 => match f with | .next => ∃ m, m < n ∧ Inv m ρ2 H2 | .cont => ∃ m, m < n ∧ Inv m ρ2 H2 | .brk => Q .next ρ2 H2 | .ret v => Q (.ret v) ρ2 H2) X
   else Q .next ρ' H1): Ex w B env d (.While test body [] pos) ρ H Q X := by
 intro A fr s E Q' a hE S W K KX
 refine wpAny_While (codeAny_whileLoop (WLI w B fr env H s Inv) ?_ n ⟨ρ, H, Gr.refl .., S, W, h0⟩)
 rintro k s1 ⟨ρ1, H1, g1, S1, W1, inv⟩
 refine turn k ρ1 H1 inv A fr s1 _ _ a S1 W1 fun b H2 s2 g2 S2 q2 => ?_
 have W2: Vars B env ρ1 H2 s2.heap := W1.gr S1 g2
 cases b with
 | false => exact wpAny_execs_nil (K _ .next ρ1 H2 s2 (g1.trans g2.up) S2 W2 .next q2)
 | true =>
  refine q2 A fr s2 _ _ a hE S2 W2 (fun f fl ρ6 H6 s6 g6 S6 W6 r6 q6 => ?_) (fun e ρ6 H6 s6 g6 S6 W6 rz q6 => ?_)
  ·have g := (g1.trans g2.up).trans g6
   cases r6 with
   | next => obtain ⟨m, hm, q⟩ := q6; exact ⟨m, hm, ρ6, H6, g, S6, W6, q⟩
   | cont => obtain ⟨m, hm, q⟩ := q6; exact ⟨m, hm, ρ6, H6, g, S6, W6, q⟩
   | brk => exact K _ .next ρ6 H6 s6 g S6 W6 .next q6
   | ret r => exact K _ (.ret _) ρ6 H6 s6 g S6 W6 (.ret r) q6
  ·obtain ⟨outer, rfl⟩ := hE
   have g := (g1.trans g2.up).trans g6
   have rz' := rz.le (Nat.le_trans g1.ext.size g2.ext.size)
   refine noted S6 W6 a.frames rz' g.ext.size fun s7 fp7 hf7 g7 S7 W7 R7 tr7 => ?_
   show wpAny (model prg w) A (do if (← field (.ref e) 1) == .none then unsupported "frame.own-activation:exception-without-traceback"
                                  setFlight (.ref e) env.frame) (fun uu s'' => E (.ref e) s'') E s7
   obtain ⟨oe, vs, T, t1, t2, t3⟩ := tr7
   refine wpAny_bind (wpAny_field t1 t2 t3 ?_)
   rw [if_neg (show ¬ ((Value.ref T == Value.none) = true) from Bool.false_ne_true)]
   refine flight S7 W7 R7 fun s8 fp8 hf8 g8 S8 W8 R8 => ?_
   refine KX e ρ6 H6 s8 (Gr.fresh (fp := fp7 ++ fp8) g ((g7.weaken fun b hb => .inr (List.mem_append_left _ hb)).trans (g8.weaken fun b hb => .inr (List.mem_append_right _ hb))) fun b hb => ?_) S8 W8 R8 q6
   rcases List.mem_append.mp hb with hb | hb
   ·exact hf7 b hb
   ·exact hf8 b hb
theorem Ex.assign_pair {x y: Str} {px py pt pos: Pos} {k: Nat} {value: Expr} (h: Ev w B env d value ρ H fun v H' => ∃ u z, v = .tup [u, z] ∧ Q .next ((ρ.set x u).set y z) H')
  (hx: Kept env x := by first | exact .inl rfl | exact .inr ⟨rfl, rfl⟩) (hy: Kept env y := by first | exact .inl rfl | exact .inr ⟨rfl, rfl⟩)
  (hs: swapsWithSole [.Tuple [.Name x px, .Name y py] k pt] value pos.line env = pure false := by rfl)
  (hw: swappedStores [.Tuple [.Name x px, .Name y py] k pt] value env = pure none := by rfl) :
  Ex w B env d (.Assign [.Tuple [.Name x px, .Name y py] k pt] value pos) ρ H Q X := by
 intro A fr s E Q' a hE S W K KX
 refine Assign_Tuple (h A fr s E _ a S W fun v z H1 s1 g1 S1 r1 zz => ?_) hs hw
 obtain ⟨u, z', e, q⟩ := zz
 subst e
 exact Asg.pair hx hy A fr H1 s1 v E _ a S1 (W.gr S g1) r1 fun s2 g2 S2 W2 => K _ .next _ H1 s2 (g1.up.trans g2) S2 W2 .next q
theorem Ex.assign_pair_sw {x y: Str} {px py pt pos: Pos} {k: Nat} {value: Expr} (h: Ev w B env d value ρ H fun v H' => ∃ u z, v = .tup [u, z] ∧ Q .next ((ρ.set y z).set x u) H')
  (hx: Kept env x := by first | exact .inl rfl | exact .inr ⟨rfl, rfl⟩) (hy: Kept env y := by first | exact .inl rfl | exact .inr ⟨rfl, rfl⟩)
  (hs: swapsWithSole [.Tuple [.Name x px, .Name y py] k pt] value pos.line env = pure false := by rfl)
  (hw: swappedStores [.Tuple [.Name x px, .Name y py] k pt] value env = pure (some [x, y]) := by rfl) :
  Ex w B env d (.Assign [.Tuple [.Name x px, .Name y py] k pt] value pos) ρ H Q X := by
 intro A fr s E Q' a hE S W K KX
 refine Assign_Tuple_swapped (h A fr s E _ a S W fun v z H1 s1 g1 S1 r1 zz => ?_) hs hw
 obtain ⟨u, z', e, q⟩ := zz
 subst e
 obtain ⟨l, vals, n, rfl, e, rs⟩ := r1.itup
 obtain ⟨v1, vs, rfl, r1, rs⟩ := rs.icons
 obtain ⟨v2, vs, rfl, r2, rs⟩ := rs.icons
 obtain rfl := rs.inil
 refine sized (wpAny_unpackItems_tuple (items := #[v1, v2]) a.handled ⟨_, e, rfl, n, rfl⟩ fun h' hx' hz => ?_)
 have kp: Keep s1.heap h' := fun b o q => hx' b o (Nat.ne_of_lt (Heap.lt_size q)) q
 have S2: HS w B fr H1 { s1 with heap := h' } := S1.keep (t := s1.toks) kp hz
 have g2: Gr NoX H1 s1 H1 { s1 with heap := h' } := Gr.keep (t := s1.toks) kp hz
 have W2: Vars B env ρ H1 h' := (W.gr S g1).gr S1 g2
 refine wpAny_assignInOrder_more (wpAny_bindName (store_name (s := { s1 with heap := h' }) S2 W2 (VR.mono' (Keep.tup kp) r2) hy fun s3 g3 S3 W3 => ?_))
 refine wpAny_assignInOrder_more (wpAny_bindName (store_name S3 W3 (VR.mono' (S2.tupKeep g3.ext (ownSeq W2)) (VR.mono' (Keep.tup kp) r1)) hx fun s4 g4 S4 W4 => wpAny_assignInOrder_none ?_))
 exact K _ .next _ H1 s4 (((g1.trans g2).up.trans g3).trans g4) S4 W4 .next q
end
end Mine.Internal
end
section
open PySem PySem.W PySem.Calls PyProof.Rows
namespace Mine.Internal
section
variable {w: World} {B: Heap} {fr: List Env} {H: MH} {s: Shared}
theorem HS.frLt (S: HS w B fr H s): ∀ env ∈ fr, ∀ L, env.frame = some L → L < s.heap.objs.size := by
 have: ∀ {l: List Env}, s.heap.FunFrames B l → ∀ env ∈ l, ∀ L, env.frame = some L → L < s.heap.objs.size := by
  intro l
  induction l with
  | nil => intro uu e he; cases he
  | cons e r ih =>
   rintro ⟨uu, ⟨L1, o1, f1, uu, g1, uu⟩, hr'⟩ env he L hL
   rcases List.mem_cons.mp he with rfl | he
   ·obtain rfl := Option.some.inj (hL.symm.trans f1); exact Heap.lt_size g1
   ·exact ih hr' env he L hL
 exact this S.frs
theorem HS.adopt (S: HS w B fr H s) {D: Addr} {mo: MO} (hB: B.get? D = none) (hfr: ∀ env ∈ fr, env.frame ≠ some D) (hr: MR w s.heap D mo) (hD: sysModules < D): HS w B fr (H.set D mo) s := by
 refine ⟨S.base, fun b e => ?_, fun b m e => ?_, S.frs, fun env he L hL => ?_, S.frc, fun b e => ?_, S.low.1, fun b e => ?_⟩
 ·by_cases q: b = D
  ·subst q; exact hB
  ·rw [MH.set_ne H mo q] at e; exact S.sep b e
 ·by_cases q: b = D
  ·subst q; rw [MH.set_self] at e; obtain rfl := Option.some.inj e; exact hr
  ·rw [MH.set_ne H mo q] at e; exact S.rep b m e
 ·rw [MH.set_ne H mo]; · exact S.frsep env he L hL
  rintro rfl; exact hfr env he hL
 ·by_cases q: b = D
  ·subst q; obtain ⟨o, e', uu⟩ := hr.cls; exact Heap.lt_size e'
  ·rw [MH.set_ne H mo q] at e; exact S.lt b e
 ·by_cases q: b = D
  ·subst q; exact hD
  ·rw [MH.set_ne H mo q] at e; exact S.low.2 b e
theorem Gr.adopt {X: Addr → Prop} {H': MH} {s': Shared} {D: Addr} {mo: MO} (g: Gr X H s H' s') (hD: s.heap.objs.size ≤ D): Gr X H s (H'.set D mo) s' := by
 refine ⟨g.same, g.ext.keep, g.ext.fkeep, fun b e => ?_, fun b => Nat.le_trans (g.ext.ver b) (MH.ver_le ..), fun b o e n q => ?_, fun b e => ?_, g.ext.size⟩
 ·by_cases q: b = D
  ·subst q; rw [MH.set_self]; simp
  ·rw [MH.set_ne H' mo q]; exact g.ext.dom b e
 ·have: b ≠ D := fun q => absurd (Heap.lt_size e) (Nat.not_lt.mpr (q ▸ hD))
  rw [MH.ver_ne H' mo this] at q; exact g.ext.same b o e n q
 ·by_cases q: b = D
  ·subst q; exact .inr hD
  ·rw [MH.set_ne H' mo q] at e; exact g.ext.new b e
end
noncomputable def ClOk (scope: Scope) (env: Env): List (Str × Addr) → Prop
 | [] => True
 | (x, c) :: r => env.cells.lookup x = some c ∧ (relabel scope env).names.lookup x = some .cell ∧ ClOk scope env r
theorem ClOk.get {scope: Scope} {env: Env}: ∀ {cl: List (Str × Addr)}, ClOk scope env cl → ∀ {x: Str} {c: Addr}, cl.lookup x = some c → env.cells.lookup x = some c ∧ (relabel scope env).names.lookup x = some .cell := by
 intro cl
 induction cl with
 | nil => intro uu x c e; cases e
 | cons p r ih =>
  obtain ⟨y, c'⟩ := p
  intro h x c e
  obtain ⟨h1, h2, h3⟩ := h
  rw [List.lookup_cons] at e
  by_cases q: x = y
  ·subst q; simp at e; subst e; exact ⟨h1, h2⟩
  ·rw [beq_eq_false_iff_ne.mpr q] at e; exact ih h3 e
theorem ClOk.mem {scope: Scope} {env: Env}: ∀ {cl: List (Str × Addr)}, ClOk scope env cl → ∀ {x: Str} {c: Addr}, (x, c) ∈ cl → env.cells.lookup x = some c := by
 intro cl
 induction cl with
 | nil => intro uu x c e; cases e
 | cons p r ih =>
  obtain ⟨y, c'⟩ := p
  intro h x c e
  obtain ⟨h1, h2, h3⟩ := h
  rcases List.mem_cons.mp e with e | e
  ·cases e; exact h1
  ·exact ih h3 e
section
variable {prog: Program} {w: World} {A: Around} {E: Value → Shared → Prop} {R: Result → Shared → Prop} {s: Shared}
section
variable (prog: Program) (w: World) (A: Around) (R: Result → Shared → Prop) (env: Env) (I: Nat → Shared → Prop) (n: Nat)
@[reducible] noncomputable def LN: Value → Shared → Prop := notedBy (model prog w) A env fun e s' => R (.error e) s'
@[reducible] noncomputable def LE {α: Type}: α → Shared → Prop := fun uu s₅ => ∃ m, m < n ∧ I m s₅
@[reducible] noncomputable def L5 (acc: Value): Value → Shared → Prop := fun x s₄ => wpAny (model prog w) A (call (.builtin "list.append") [acc, x]) (LE I n) (LN prog w A R env) s₄
@[reducible] noncomputable def L4 (acc: Value) (elt: Expr): Bool → Shared → Prop := fun ok s₃ => if ok = true then wpAny (model prog w) A (eval elt env) (L5 prog w A R env I n acc) (LN prog w A R env) s₃ else ∃ m, m < n ∧ I m s₃
@[reducible] noncomputable def L3 (acc: Value) (elt: Expr) (ifs: List Expr): Unit → Shared → Prop := fun uu s₂ => wpAny (model prog w) A (forIn ifs true fun c r => if r = true then do let ok ← isTrue c env (eval c env); pure (ForInStep.yield ok) else pure (ForInStep.yield r)) (L4 prog w A R env I n acc elt) (LN prog w A R env) s₂
@[reducible] noncomputable def L2 (K: Unit → Shared → Prop) (target: Expr) (v: Value): Unit → Shared → Prop := fun uu s₁ => wpAny (model prog w) A (assign target env v) K (LN prog w A R env) s₁
@[reducible] noncomputable def L1 (K: Unit → Shared → Prop) (target: Expr) (it: Value): Option Value → Shared → Prop := fun r s₁ => match r with
      | none => R (.ok .next) s₁
      | some v => wpAny (model prog w) A (letOwnedTupleGo target it v) (L2 prog w A R env K target v) (LN prog w A R env) s₁
end
theorem compLoop_any {elt target iter: Expr} {ifs: List Expr} {scope: Scope} {pos: Pos} {it acc: Value} {env: Env} (I: Nat → Shared → Prop)
  (turn: ∀ n s, I n s → wpAny (model prog w) A (pyNext it) (L1 prog w A R env (L3 prog w A R env I n acc elt ifs) target it) (LN prog w A R env) s)
  (n: Nat) (h: I n s): codeAny (model prog w) A (.compLoop (.ListComp elt [⟨target, iter, ifs, 0⟩] scope pos) 0 it acc env) R s := by
 refine codeAny_loop rfl I (fun n s hI => ?_) n h
 show wpAny _ A ((compTurn (.ListComp elt [⟨target, iter, ifs, 0⟩] scope pos) 0 it acc env).onRaise (fun x => do noteFrame x env; theTreesLotGoes x)) _ _ s
 refine wpAny_noted ?_
 rw [compTurn_list]
 refine wpAny_bind (wpAny_standAt (wpAny_bind (wpAny_mono (turn n s hI) (fun r s₁ h₁ => ?_) fun uu uu h' => h')))
 cases r with
 | none => exact wpAny_pure h₁
 | some v =>
  refine wpAny_bind (wpAny_mono h₁ (fun uu s₁' h₁' => ?_) fun uu uu h' => h')
  refine wpAny_bind (wpAny_mono h₁' (fun uu s₂ h₂ => wpAny_bind (wpAny_mono h₂ (fun ok s₃ h₃ => ?_) fun uu uu h' => h')) fun uu uu h' => h')
  cases ok with
  | false => exact wpAny_pure ⟨rfl, h₃⟩
  | true =>
   exact wpAny_bind (wpAny_bind (wpAny_mono h₃ (fun x s₄ h₄ => wpAny_bind (wpAny_mono h₄ (fun uu s₅ h₅ => wpAny_pure (wpAny_pure ⟨rfl, h₅⟩)) fun uu uu h' => h')) fun uu uu h' => h'))
end
section
variable (w: World) (B: Heap)
noncomputable def If1 (env: Env) (d: Nat) (ifs: List Expr) (ρ: Rho) (H: MH) (Q: Bool → MH → Prop): Prop :=
 match ifs with
 | [] => Q true H
 | [c] => Ts w B env d c ρ H Q
 | _ => False
end
section
variable {w: World} {B: Heap} {env: Env} {d: Nat} {ρ: Rho} {H: MH} {fr: List Env}
theorem If1.run {ifs: List Expr} {Q: Bool → MH → Prop} (h: If1 w B env d ifs ρ H Q) {A: Around} {s: Shared} {E: Value → Shared → Prop} {Q': Bool → Shared → Prop} (a: AOk d fr A) (S: HS w B fr H s) (W: Vars B env ρ H s.heap)
  (K: ∀ b H' s', Gr NoX H s H' s' → HS w B fr H' s' → Q b H' → Q' b s') :
  wpAny (model prg w) A (forIn ifs true fun c r => if r = true then do let ok ← isTrue c env (eval c env); pure (ForInStep.yield ok) else pure (ForInStep.yield r)) Q' E s := by
 rcases ifs with uu | ⟨c, uu | ⟨c2, r⟩⟩
 ·exact wpAny_tests_nil (K true H s (Gr.refl ..) S h)
 ·exact wpAny_tests_one (h A fr s E Q' a S W K)
 ·exact (h: False).elim
theorem Vars.sub {h: Heap} {ρ ρ': Rho} {cl: List (Str × Addr)} (W: Vars B env ρ' H h) (hs: ∀ y, (cl.lookup y).isSome = true → ρ' y = ρ y) (hk: ∀ x c, cl.lookup x = some c → env.kindOf x = some .cell) :
  Vars B env (fun y => if (cl.lookup y).isSome = true then ρ y else none) H h := by
 refine ⟨W.hkind, W.hglob, W.hblt,?_, W.cells, W.apart, W.own⟩
 obtain ⟨m, hm, hv⟩ := W.ns
 refine ⟨m, hm, fun x v e => ?_⟩
 by_cases q: (cl.lookup x).isSome = true
 ·rw [if_pos q] at e; exact hv x v (by rw [hs x q]; exact e)
 ·rw [if_neg q] at e; exact nsF e
noncomputable abbrev inner (cl: List (Str × Addr)) (ρ: Rho): Rho := fun y => if (cl.lookup y).isSome = true then ρ y else none
theorem lt_irr {a b: Nat} (h1: a < b) (h2: b ≤ a): False := by lia
theorem relabel_local {scope: Scope} {env: Env} {x: Str} (h: (relabel scope env).names.lookup x = some .cell) (hc: ∀ y ∈ scope.names, y.2 ≠ .cell) (hl: env.kindOf x = some .local): False := by
 unfold relabel at h
 dsimp only at h
 have: ∀ {l: List (Str × NameKind)}, (∀ y ∈ l, y.2 ≠ .cell) → (l.map fun (n, k) => if (k == .free && env.scope.kind == .function && env.kindOf n == some .cell) then (n, .cell) else (n, k)).lookup x = some .cell → False := by
  intro l
  induction l with
  | nil => intro uu h; cases h
  | cons y r ih =>
   intro hc h
   obtain ⟨n, k⟩ := y
   rw [List.map_cons] at h
   dsimp only at h
   split at h
   ·rename_i hh
    rw [List.lookup_cons] at h
    by_cases q: x = n
    ·subst q
     simp only [Bool.and_eq_true, beq_iff_eq] at hh
     rw [hl] at hh; cases hh.2
    ·rw [beq_eq_false_iff_ne.mpr q] at h
     exact ih (fun y hy => hc y (.tail _ hy)) h
   ·rw [List.lookup_cons] at h
    by_cases q: x = n
    ·subst q
     simp at h
     exact hc _ (.head _) h
    ·rw [beq_eq_false_iff_ne.mpr q] at h
     exact ih (fun y hy => hc y (.tail _ hy)) h
 exact this hc h
theorem clPw {scope: Scope} {env: Env} {cl: List (Str × Addr)} (hcl: ClOk scope env cl) (hnd: (cl.map (·.1)).Nodup) (ha: env.cells.Pairwise fun x y => x.2 ≠ y.2): cl.Pairwise fun x y => x.2 ≠ y.2 := by
 induction cl with
 | nil => exact .nil
 | cons z r ih =>
  rw [List.map_cons, List.nodup_cons] at hnd
  refine .cons (fun y hy q => ?_) (ih hcl.2.2 hnd.2)
  obtain ⟨x, c⟩ := z
  obtain ⟨y, c'⟩ := y
  simp only at q; subst q
  have h1 := mem_of_lookup hcl.1
  have h2 := mem_of_lookup (ClOk.mem hcl.2.2 hy)
  have := name_of_cell ha h1 h2
  subst this
  exact hnd.1 (List.mem_map.mpr ⟨_, hy, rfl⟩)
theorem adoptStep {s: Shared} {h': Heap} {t: Nat} {D: Addr} (S: HS w B fr H s) (oD: H.o D = none) (bD: B.get? D = none) (hl: ∃ o, s.heap.get? D = some o ∧ (o.cls = .type "list" ∨ o.cls = .type "dict")) (hl': ∃ o, h'.get? D = some o ∧ ∀ vs, o.data ≠ .fields vs)
  (sb: Heap.SameBut D s.heap h') (hfr: ∀ env ∈ fr, env.frame ≠ some D): HS w B fr H { s with heap := h', toks := t } ∧ Gr (· = D) H s H { s with heap := h', toks := t } ∧ TupKeep s.heap h' := by
 obtain ⟨oL, eL, cL⟩ := hl
 have kt: TupKeep s.heap h' := fun b o e c uu => (sb.2 b fun q => by subst q; obtain rfl := Option.some.inj (eL.symm.trans e); rw [c] at cL; rcases cL with cL | cL <;> exact absurd cL (by decide)).trans e
 have ne: ∀ b, H.o b ≠ none → b ≠ D := fun b e q => by subst q; exact e oD
 refine ⟨⟨fun b o e => (sb.2 b fun q => by subst q; exact nsF (bD.symm.trans e)).trans (S.base b o e), S.sep, fun b mo e => (S.rep b mo e).fr (fun o e' => (sb.2 b (ne b (by rw [e]; simp))).trans e') kt,?_, S.frsep, fun env he L hL => let ⟨o, e, c⟩ := S.frc env he L hL; ⟨o, (sb.2 L fun q => hfr env he (q ▸ hL)).trans e, c⟩, fun b e => ?_, by show sysModules < h'.objs.size; rw [sb.1]; exact S.low.1, S.low.2⟩, ⟨rfl,?_⟩, kt⟩
 ·have: ∀ {l: List Env}, (∀ env ∈ l, env.frame ≠ some D) → s.heap.FunFrames B l → h'.FunFrames B l := by
   intro l
   induction l with
   | nil => intro uu uu; trivial
   | cons e r ih =>
    rintro hf ⟨p1, ⟨L1, o1, f1, n1, g1, d1⟩, hr'⟩
    exact ⟨p1, ⟨L1, o1, f1, n1, (sb.2 L1 fun q => hf e (.head _) (q ▸ f1)).trans g1, d1⟩, ih (fun env he => hf env (.tail _ he)) hr'⟩
  exact this hfr S.frs
 ·show b < h'.objs.size
  rw [sb.1]; exact S.lt b e
 ·exact ⟨fun b o e uu nx uu => (sb.2 b nx).trans e, fun b o e uu nx => ⟨o, (sb.2 b nx).trans e, rfl, rfl⟩, fun uu e => e, fun uu => Nat.le_refl _, fun b o e m uu => (sb.2 b (ne b m)).trans e, fun uu e => .inl e, Nat.le_of_eq sb.1.symm⟩
structure CSet (w: World) (B: Heap) (fr: List Env) (cenv: Env) (ρ0: Rho) (H: MH) (fp: List Addr) (St: Nat → Heap → Prop) (s: Shared) (D C': Addr) (s₁: Shared): Prop where
 S1: HS w B fr H s₁
 g1: Gr NoX H s H s₁
 hz: s₁.heap.objs.size = D + 2
 hDe: s.heap.objs.size ≤ D
 hC: C' = D + 1
 hfD: D ∉ fp
 hfC: C' ∉ fp
 oD: H.o D = none
 oC: H.o C' = none
 bD: B.get? D = none
 bC: B.get? C' = none
 st1: St 0 s₁.heap
 WC: Vars B cenv ρ0 H s₁.heap
 ownC: ∀ b, Own cenv b → b = C' ∨ b < D
 ownF: ∀ b ∈ fp, ¬ Own cenv b
 hDfr: ∀ env ∈ fr, env.frame ≠ some D
theorem HS.freshAt {s: Shared} (S: HS w B fr H s) {D: Addr} (h: s.heap.objs.size ≤ D): H.o D = none := by
 cases q: H.o D with
 | none => rfl
 | some mo => exact (lt_irr (S.lt D (by rw [q]; exact nofun)) h).elim
theorem Wk.fresh {target: Expr} {xs: List V} {C: MH → Prop} {fp: List Addr} {St: Nat → Heap → Prop} {I D: Addr} {h: Heap} (wk: Wk w B d target I xs C fp St) (st: St 0 h) (hD: h.objs.size ≤ D): D ∉ fp := fun q => by
 obtain ⟨o, vs, e, uu⟩ := wk.priv 0 _ st D q
 exact lt_irr (Heap.lt_size e) hD
theorem cvars {scope: Scope} {cl: List (Str × Addr)} {C': Addr} {h: Heap} {m: Str → Option Value} (hcell: ∀ y ∈ scope.names, y.2 ≠ .cell) (hkind: scope.kind = .function) (hcl: ClOk scope env cl) (hnd: (cl.map (·.1)).Nodup)
  (W1: Vars B env ρ H h) (hns: h.Ns C' m) (oC: H.o C' = none) (bC: B.get? C' = none): Vars B (compEnvC scope cl C' env) (inner cl ρ) H h := by
 refine ⟨hkind, W1.hglob, W1.hblt, ⟨_, hns, fun x v e => ?_⟩, fun x c hx => W1.cells x c (hcl.get hx).1, clPw hcl hnd W1.apart,?_⟩
 ·by_cases q: (cl.lookup x).isSome = true
  ·simp only [inner, if_pos q] at e
   obtain ⟨c, hcx⟩ := Option.isSome_iff_exists.mp q
   obtain ⟨e1', e2'⟩ := hcl.get hcx
   obtain ⟨m, uu, hv⟩ := W1.ns
   obtain ⟨val, r, z⟩ := hv x v e
   refine ⟨val, r, .inr ⟨.inl e2', c, hcx,?_⟩⟩
   rcases z with ⟨z1, uu⟩ | ⟨uu, c2, z2, z3⟩
   ·exact (relabel_local e2' hcell z1).elim
   ·obtain rfl := Option.some.inj (e1'.symm.trans z2); exact z3
  ·simp only [inner, if_neg q] at e; exact nsF e
 ·rintro b (rfl | ⟨x, hx⟩)
  ·exact ⟨oC, bC⟩
  ·exact W1.own b (.inr ⟨x, (hcl.get hx).1⟩)
theorem comp_start {node target: Expr} {scope: Scope} {cl: List (Str × Addr)} {xs: List V} {C: MH → Prop} {fp: List Addr} {St: Nat → Heap → Prop} {I: Addr} {A: Around} {s: Shared} {E: Value → Shared → Prop}
  {RR: Value → Addr → Result → Shared → Prop} {mk: Sem Value} {o: Obj}
  (hmk: ∀ {Q: Value → Shared → Prop}, Q (.ref s.heap.objs.size) { s with heap := s.heap.push o } → wpAny (model prg w) A mk Q E s)
  (hst: ∀ {acc: Value} {env': Env} {R: Result → Shared → Prop} {s: Shared}, codeAny (model prg w) A (.compLoop node 0 (.ref I) acc env') R s →
   wpAny (model prg w) A (pyIter (.ref I)) (fun it' s' => codeAny (model prg w) A (.compLoop node 0 it' acc env') R s') (notedBy (model prg w) A env' fun x s' => R (.error x) s') s → codeAny (model prg w) A (.compStart node 0 (.ref I) acc env') R s)
  (hcell: ∀ y ∈ scope.names, y.2 ≠ .cell) (hkind: scope.kind = .function) (hcl: ClOk scope env cl) (hnd: (cl.map (·.1)).Nodup)
  (S: HS w B fr H s) (W: Vars B env ρ H s.heap) (wk: Wk w B d target I xs C fp St) (st: St 0 s.heap) (hfO: ∀ b ∈ fp, ¬ Own env b) (hc: C H) (ho: o.isFreed = false)
  (key: ∀ D C' s₁, CSet w B fr (compEnvC scope cl C' env) (inner cl ρ) H fp St s D C' s₁ → s₁.heap.get? D = some o → codeAny (model prg w) A (.compLoop node 0 (.ref I) (.ref D) (compEnvC scope cl C' env)) (RR (.ref D) C') s₁) :
  wpAny (model prg w) A mk (fun acc s₃ => wpAny (model prg w) A (newFunctionEnv scope env.globals cl [] env.qual none .none (some env)) (fun cenv s₄ =>
   codeAny (model prg w) A (.compStart node 0 (.ref I) acc { cenv with scope := relabel scope env }) (RR acc cenv.locals) s₄) E s₃) E s := by
 refine hmk (wpAny_newFunctionEnv hcell (fun y hy => nomatch hy) (fun h₁ hns₁ hsb₁ => ?_) hkind)
 have hC: (s.heap.push o).objs.size = s.heap.objs.size + 1 := Heap.size_push ..
 have kp1': Keep (s.heap.push o) h₁ := fun b o e => (hsb₁.2 b (Nat.ne_of_lt (Heap.lt_size e))).trans (Heap.get?_push_of_some _ e)
 have kp1: Keep s.heap h₁ := Keep.trans (Keep.push _ _) kp1'
 have hz1: h₁.objs.size = s.heap.objs.size + 2 := by rw [hsb₁.1, Heap.size_push, hC]
 have hle: s.heap.objs.size ≤ h₁.objs.size := by rw [hz1]; exact Nat.le_add_right ..
 have hCle: s.heap.objs.size ≤ (s.heap.push o).objs.size := by rw [hC]; exact Nat.le_succ _
 have S1: HS w B fr H { s with heap := h₁, toks := s.toks + ([]: List (Str × Value)).length } := S.keep kp1 hle
 have g1: Gr NoX H s H { s with heap := h₁, toks := s.toks + ([]: List (Str × Value)).length } := Gr.keep kp1 hle
 have st1: St 0 h₁ := wk.own S st g1 (S.tupKeep g1.ext fun uu uu q => q.elim) (fun uu uu q => q) hc hc
 have oC: H.o (s.heap.push o).objs.size = none := S.freshAt hCle
 have bC: B.get? (s.heap.push o).objs.size = none := S.bfresh hCle
 have hfC := wk.fresh st hCle
 have cs: CSet w B fr (compEnvC scope cl (s.heap.push o).objs.size env) (inner cl ρ) H fp St s s.heap.objs.size (s.heap.push o).objs.size { s with heap := h₁, toks := s.toks + ([]: List (Str × Value)).length } := by
  refine ⟨S1, g1, hz1, Nat.le_refl _, hC, wk.fresh st (Nat.le_refl _), hfC, S.freshAt (Nat.le_refl _), oC, S.bfresh (Nat.le_refl _), bC, st1, cvars hcell hkind hcl hnd (W.gr S g1) hns₁ oC bC,?_,?_,?_⟩
  ·rintro b (rfl | ⟨x, hx⟩)
   ·exact .inl rfl
   ·exact .inr (W.own_lt b (.inr ⟨x, (hcl.get hx).1⟩))
  ·rintro b hb (rfl | ⟨x, hx⟩)
   ·exact hfC hb
   ·exact hfO b hb (.inr ⟨x, (hcl.get hx).1⟩)
  ·exact fun env he q => lt_irr (S.frLt env he _ q) (Nat.le_refl _)
 have k := key _ _ _ cs (kp1' _ _ (Heap.get?_push_size _ ho))
 exact hst k (wk.self 0 A _ _ _ st1 k)
section
variable (w: World) (B: Heap) (cenv: Env) (d: Nat) (elt target: Expr) (ifs: List Expr) (cl: List (Str × Addr)) (ρ: Rho) (C: MH → Prop) (I: List V → MH → Prop)
@[reducible] noncomputable def TE (ys: List V): V → MH → Prop := fun y H3 => C H3 ∧ I (ys ++ [y]) H3
@[reducible] noncomputable def TB (ρ1: Rho) (ys: List V): Bool → MH → Prop := fun b H2 => if b then Ev w B cenv d elt ρ1 H2 (TE C I ys) else C H2 ∧ I ys H2
inductive TnL (x: V) (ys: List V) (H': MH): Prop
 | mk (ρ1: Rho) (asg: AsgL w B cenv d target x (inner cl ρ) ρ1) (sub: ∀ y, (cl.lookup y).isSome = true → ρ1 y = ρ y) (body: If1 w B cenv d ifs ρ1 H' (TB w B cenv d elt C I ρ1 ys))
end
inductive CI (w: World) (B: Heap) (fr: List Env) (H: MH) (s₁: Shared) (cenv: Env) (ρ0: Rho) (D C': Addr) (fp: List Addr) (St: Nat → Heap → Prop) (C: MH → Prop) (Inv: Nat → List V → MH → Prop) (n k: Nat) (s': Shared): Prop
 | mk (i: Nat) (ys: List V) (H': MH) (vals: Array Value) (hk: k = n + 1 - i) (hi: i ≤ n) (hyl: ys.length ≤ i) (g2: Gr (fun c => False ∨ c ∈ C' :: D :: fp) H s₁ H' s') (S2: HS w B fr H' s') (W2: Vars B cenv ρ0 H' s'.heap) (st2: St i s'.heap) (hc2: C H') (inv: Inv i ys H')
   (pl: s'.heap.PlainList D vals) (rs: VRs s'.heap vals.toList ys) (oD2: H'.o D = none) (oC2: H'.o C' = none)
theorem comp_core {elt target iter: Expr} {ifs: List Expr} {scope: Scope} {pos: Pos} {cl: List (Str × Addr)} {xs: List V} {C: MH → Prop} {fp: List Addr} {St: Nat → Heap → Prop} {I: Addr} {A: Around} {s: Shared} {E: Value → Shared → Prop}
  {RR: Value → Addr → Result → Shared → Prop} (Inv: Nat → List V → MH → Prop)
  (hcell: ∀ y ∈ scope.names, y.2 ≠ .cell) (hkind: scope.kind = .function) (hcl: ClOk scope env cl) (hnd: (cl.map (·.1)).Nodup)
  (a: AOk d fr A) (S: HS w B fr H s) (W: Vars B env ρ H s.heap) (wk: Wk w B d target I xs C fp St) (st: St 0 s.heap) (hfB: ∀ b ∈ fp, B.get? b = none) (hfO: ∀ b ∈ fp, ¬ Own env b) (hlen: xs.length ≤ 1000000)
  (hc: C H) (h0: Inv 0 [] H)
  (turn: ∀ L i x ys H', xs[i]? = some x → C H' → Inv i ys H' → TnL w B (compEnvC scope cl L env) d elt target ifs cl ρ C (Inv (i + 1)) x ys H')
  (hRR: ∀ D C' H' s' ys m, s.heap.objs.size ≤ D → s.heap.objs.size ≤ C' → D ≠ C' → s'.heap.Ns C' m → MR w s'.heap D (.list ys) → Gr (fun c => False ∨ c ∈ C' :: D :: fp) H s H' s' → HS w B fr H' s' → C H' → Inv xs.length ys H' →
   H'.o D = none → H'.o C' = none → RR (.ref D) C' (.ok .next) s') :
  wpAny (model prg w) A (newList []) (fun acc s₃ => wpAny (model prg w) A (newFunctionEnv scope env.globals cl [] env.qual none .none (some env)) (fun cenv s₄ =>
   codeAny (model prg w) A (.compStart (.ListComp elt [⟨target, iter, ifs, 0⟩] scope pos) 0 (.ref I) acc { cenv with scope := relabel scope env }) (RR acc cenv.locals) s₄) E s₃) E s := by
 refine comp_start (fun h => wpAny_newObj_type h) codeAny_compStart_list hcell hkind hcl hnd S W wk st hfO hc rfl fun D C' s₁ cs hD1 => ?_
 obtain ⟨S1, g1, hz, hDe, hC, hfD, hfC, oD, oC, bD, bC, st1, WC, ownC, ownF, hDfr⟩ := cs
 refine compLoop_any (CI w B fr H s₁ (compEnvC scope cl C' env) (inner cl ρ) D C' fp St C Inv xs.length) ?_ (xs.length + 1) ⟨0, [], H, #[], rfl, Nat.zero_le _, Nat.le_refl _, Gr.refl .., S1, WC, st1, hc, h0, ⟨_, hD1⟩, .nil, oD, oC⟩
 rintro k s2 ⟨i, ys, H2, vals, rfl, hi, hyl, g2, S2, W2, st2, hc2, inv, pl, rs, oD2, oC2⟩
 have hDC: ¬ D = C' := by rw [hC]; exact Nat.ne_of_lt (Nat.lt_succ_self _)
 have clsD: ∀ {h: Heap} {v: Array Value} {o: Obj}, h.PlainList D v → h.get? D = some o → o.cls ≠ .type "frame" := fun ⟨n, e⟩ e' => by obtain rfl := Option.some.inj (e.symm.trans e'); exact fun q => nomatch (Value.type.inj q)
 cases hx: xs[i]? with
 | none =>
  have hil: i = xs.length := Nat.le_antisymm hi (by simpa using hx)
  subst hil
  refine wk.done A fr H2 s2 _ _ a S2 hc2 (wk.noH S2 st2) hfB st2 fun s3 g3 S3 => ?_
  have kt := wk.tk S2 st2 g3
  have W3 := W2.gx g3 (fun b hb q => ownF b q hb) kt
  obtain ⟨m, hm, uu⟩ := W3.ns
  obtain ⟨n, e⟩ := pl
  refine hRR D C' H2 s3 ys m hDe (hC ▸ Nat.le_succ_of_le hDe) hDC hm ⟨vals.toList, ⟨n,?_⟩, VRs.mono' kt rs⟩ ((g1.up.trans g2).trans (g3.weaken fun c hc => .inr (.tail _ (.tail _ hc)))) S3 hc2 inv oD2 oC2
  exact g3.ext.keep D _ e oD2 hfD (clsD ⟨n, e⟩ e)
 | some x =>
  have hil: i < xs.length := (List.getElem?_eq_some_iff.mp hx).1
  refine wk.item i x A fr H2 s2 _ _ a S2 hc2 (wk.noH S2 st2) hfB st2 hx fun val s3 go => go _ _ fun s4 g4 S4 st4 r4 => ?_
  obtain ⟨ρ5, hasg, hsub, hbody⟩ := turn C' i x ys H2 hx hc2 inv
  have kt4 := wk.tk S2 st2 g4
  have W4 := W2.gx g4 (fun b hb q => ownF b q hb) kt4
  have pl4: s4.heap.PlainList D vals := let ⟨n, e⟩ := pl; ⟨n, g4.ext.keep D _ e oD2 hfD (clsD ⟨n, e⟩ e)⟩
  refine hasg A fr H2 s4 val _ _ a S4 W4 r4 fun s5 g5 S5 W5 => ?_
  have kt5 := S4.tupKeep g5.ext (fun a o ha => ownSeq W4 a o (.inl ha))
  have st5 := wk.own S4 st4 g5 kt5 (fun b hb q => hfC (by rw [← show b = C' from q]; exact hb)) hc2 hc2
  have pl5: s5.heap.PlainList D vals := let ⟨n, e⟩ := pl4; ⟨n, g5.ext.keep D _ e oD2 hDC (clsD ⟨n, e⟩ e)⟩
  have g25: Gr (fun c => False ∨ c ∈ C' :: D :: fp) H s₁ H2 s5 := (g2.trans (g4.weaken fun c hc => .inr (.tail _ (.tail _ hc)))).trans (g5.weaken fun c hc => .inr (by rw [show c = C' from hc]; exact .head _))
  refine hbody.run a S5 W5 fun b H6 s6 g6 S6 q6 => ?_
  have kt6 := S5.tupKeep g6.ext fun uu uu q => q.elim
  have oD6: H6.o D = none := by obtain ⟨n, e⟩ := pl5; exact g6.ext.none' e oD2
  have oC6: H6.o C' = none := by obtain ⟨m, ⟨o, uu, uu, e, uu⟩, uu⟩ := W5.ns; exact g6.ext.none' e oC2
  have pl6: s6.heap.PlainList D vals := let ⟨n, e⟩ := pl5; ⟨n, g6.ext.keep D _ e oD2 id (clsD ⟨n, e⟩ e)⟩
  have W6: Vars B (compEnvC scope cl C' env) ρ5 H6 s6.heap := W5.gr S5 g6
  have rs6 := VRs.mono' kt6 (VRs.mono' kt5 (VRs.mono' kt4 rs))
  cases b with
  | false =>
   refine ⟨xs.length + 1 - (i + 1), by lia, i + 1, ys, H6, vals, rfl, hil, by lia, g25.trans g6.up, S6, W6.sub hsub (by intro x c hx; exact (hcl.get hx).2), wk.own S5 st5 g6 kt6 (fun uu uu q => q) hc2 q6.1, q6.1, q6.2, pl6, rs6, oD6, oC6⟩
  | true =>
   refine q6 A fr s6 _ _ a S6 W6 fun v y H7 s7 g7 S7 r7 q7 => ?_
   have kt7 := S6.tupKeep g7.ext fun uu uu q => q.elim
   have oD7: H7.o D = none := by obtain ⟨n, e⟩ := pl6; exact g7.ext.none' e oD6
   have oC7: H7.o C' = none := by obtain ⟨m, ⟨o, uu, uu, e, uu⟩, uu⟩ := W6.ns; exact g7.ext.none' e oC6
   have pl7: s7.heap.PlainList D vals := let ⟨n, e⟩ := pl6; ⟨n, g7.ext.keep D _ e oD6 id (clsD ⟨n, e⟩ e)⟩
   have st7 := wk.own S5 st5 (g6.trans g7) (fun b o e c q => kt7 b o (kt6 b o e c q) c q) (fun uu uu q => q) hc2 q7.1
   have W7: Vars B (compEnvC scope cl C' env) ρ5 H7 s7.heap := W6.gr S6 g7
   have rs7 := VRs.mono' kt7 rs6
   refine sized (wpAny_list_append_plain pl7 (fun h8 pl8 sb8 hz8 => ?_) (by rw [← Array.length_toList, rs7.length, sizeLine]; lia))
   have hn8: ∀ b o, s7.heap.get? b = some o → b ≠ D → h8.get? b = some o := fun b o e nb => (sb8.2 b nb).trans e
   obtain ⟨S8, g8, kt8⟩ := adoptStep (t := s7.toks) S7 oD7 bD (by obtain ⟨n, e⟩ := pl7; exact ⟨_, e, .inl rfl⟩) (by obtain ⟨n, e⟩ := pl8; exact ⟨_, e, fun vs q => nomatch q⟩) sb8 hDfr
   have W8 := W7.gx g8 (fun b hb q => by rw [show b = D from q] at hb; exact (ownC D hb).elim (fun e => hDC e) (Nat.lt_irrefl _)) kt8
   refine ⟨xs.length + 1 - (i + 1), by lia, i + 1, ys ++ [y], H7, _, rfl, hil, by rw [List.length_append]; simp; lia, ((g25.trans g6.up).trans g7.up).trans (g8.weaken fun c hc => .inr (by rw [show c = D from hc]; exact .tail _ (.head _))), S8, W8.sub hsub (by intro x c hx; exact (hcl.get hx).2),?_, q7.1, q7.2, pl8,?_, oD7, oC7⟩
   ·exact wk.own S7 st7 g8 kt8 (fun b hb q => hfD (by rw [← show b = D from q]; exact hb)) q7.1 q7.1
   ·rw [Array.toList_push]
    exact VRs.mono' kt8 (rs7.append (.cons r7 .nil))
end
end Mine.Internal
end
section
open PySem PySem.W PySem.Calls PyProof.Rows
namespace Mine.Internal
section
variable {w: World} {B: Heap} {env: Env} {d: Nat} {ρ: Rho} {H: MH} {fr: List Env}
theorem HS.free {s: Shared} {h': Heap} {C: Addr} {m: Str → Option Value} (S: HS w B fr H s) (hn: s.heap.Ns C m) (oC: H.o C = none) (bC: B.get? C = none) (hfr: ∀ env ∈ fr, env.frame ≠ some C) (sb: Heap.SameBut C s.heap h') :
  HS w B fr H { s with heap := h' } ∧ Gr (· = C) H s H { s with heap := h' } ∧ TupKeep s.heap h' := by
 obtain ⟨o, es, ep, e, hd, uu⟩ := hn
 have kt: TupKeep s.heap h' := fun b o' e' c ⟨xs, n, q⟩ => (sb.2 b fun q' => by subst q'; obtain rfl := Option.some.inj (e.symm.trans e'); rw [hd] at q; cases q).trans e'
 have ne: ∀ b, H.o b ≠ none → b ≠ C := fun b e q => e (q ▸ oC)
 refine ⟨⟨fun b o e => (sb.2 b fun q => by rw [q, bC] at e; exact nsF e).trans (S.base b o e), S.sep, fun b mo e => (S.rep b mo e).fr (fun o e' => (sb.2 b (ne b (by rw [e]; simp))).trans e') kt,?_, S.frsep, fun env he L hL => let ⟨o, e, c⟩ := S.frc env he L hL; ⟨o, (sb.2 L fun q => hfr env he (q ▸ hL)).trans e, c⟩, fun b e => ?_, by show sysModules < h'.objs.size; rw [sb.1]; exact S.low.1, S.low.2⟩, ⟨rfl,?_⟩, kt⟩
 ·have: ∀ {l: List Env}, (∀ env ∈ l, env.frame ≠ some C) → s.heap.FunFrames B l → h'.FunFrames B l := by
   intro l
   induction l with
   | nil => intro uu uu; trivial
   | cons e r ih =>
    rintro hf ⟨p1, ⟨L1, o1, f1, n1, g1, d1⟩, hr'⟩
    exact ⟨p1, ⟨L1, o1, f1, n1, (sb.2 L1 fun q => hf e (.head _) (q ▸ f1)).trans g1, d1⟩, ih (fun env he => hf env (.tail _ he)) hr'⟩
  exact this hfr S.frs
 ·show b < h'.objs.size
  rw [sb.1]; exact S.lt b e
 ·exact ⟨fun b o e uu nx uu => (sb.2 b nx).trans e, fun b o e uu nx => ⟨o, (sb.2 b nx).trans e, rfl, rfl⟩, fun uu e => e, fun uu => Nat.le_refl _, fun b o e m uu => (sb.2 b (ne b m)).trans e, fun uu e => .inl e, Nat.le_of_eq sb.1.symm⟩
inductive CompL (w: World) (B: Heap) (env: Env) (d: Nat) (elt target: Expr) (ifs: List Expr) (scope: Scope) (cl: List (Str × Addr)) (ρ: Rho) (Q: List V → MH → Prop) (xs: List V) (C: MH → Prop) (H1: MH): Prop
 | mk (Inv: Nat → List V → MH → Prop) (hc: C H1) (h0: Inv 0 [] H1) (hlen: xs.length ≤ 1000000)
  (turn: ∀ L i x ys H', xs[i]? = some x → C H' → Inv i ys H' → TnL w B (compEnvC scope cl L env) d elt target ifs cl ρ C (Inv (i + 1)) x ys H') (fin: ∀ ys H', C H' → Inv xs.length ys H' → Q ys H')
theorem Ev.listcomp {elt target iter: Expr} {ifs: List Expr} {scope: Scope} {pos: Pos} {cl: List (Str × Addr)} {Q: V → MH → Prop}
  (hclos: closureFor scope env = pure cl) (hcl: ClOk scope env cl) (hnd: (cl.map (·.1)).Nodup)
  (h: Its w B env d iter target ρ H (CompL w B env d elt target ifs scope cl ρ fun ys H' => ∀ n, H'.o n = none → Q (.ref n) (H'.set n (.list ys))))
  (hcell: ∀ y ∈ scope.names, y.2 ≠ .cell) (hkind: scope.kind = .function) (hnames: ∀ y ∈ scope.names, y.2 = .local → scope.names.lookup y.1 = some .local)
  (hs: ∀ x, foldedSetIterable iter env x = pure x := by intro uu; rfl): Ev w B env d (.ListComp elt [⟨target, iter, ifs, 0⟩] scope pos) ρ H Q := by
 intro A fr s E Q' a S W K
 rw [eval_ListComp]
 refine wpAny_comprehension_free (use := none) rfl hs hclos hkind hnames (h A fr s E _ a S W fun I xs C fp St H1 s1 wk st hf hn g1 S1 zz => ?_)
 obtain ⟨Inv, hc, h0, hlen, turn, fin⟩ := zz
 refine comp_core (RR := fun acc C => compPost (model prg w) A E none Q' acc C) Inv hcell hkind hcl hnd a S1 (W.gr S g1) wk st (fun b hb => S.bfresh (hf b hb)) (fun b hb q => absurd (W.own_lt b q) (Nat.not_lt.mpr (hf b hb))) hlen hc h0 turn ?_
 intro D C' H' s' ys m hD hC hDC hns hmr g S' hc' inv oD oC
 refine ⟨m, hns, fun h' sb => ?_⟩
 have hsz := g1.ext.size
 have bC: B.get? C' = none := S1.bfresh hC
 have bD: B.get? D = none := S1.bfresh hD
 have nfr: ∀ x, s1.heap.objs.size ≤ x → ∀ env ∈ fr, env.frame ≠ some x := fun x hx env he q => absurd (S1.frLt env he x q) (Nat.not_lt.mpr hx)
 obtain ⟨S2, g2, kt2⟩ := S'.free hns oC bC (nfr _ hC) sb
 have hmr2: MR w h' D (.list ys) := hmr.fr (fun o e => (sb.2 D hDC).trans e) kt2
 refine K (.ref D) (.ref D) (H'.set D (.list ys)) _ ?_ (S2.adopt bD (nfr _ hD) hmr2 (Nat.lt_of_lt_of_le S1.low.1 hD)) (.ref D) (fin ys H' hc' inv D oD)
 refine Gr.adopt ?_ (Nat.le_trans hsz hD)
 refine Gr.fresh (fp := C' :: D :: fp) g1 ((g.weaken fun c hc => hc).trans (g2.weaken fun c hc => .inr (by rw [show c = C' from hc]; exact .head _))) fun c hc => ?_
 rcases List.mem_cons.mp hc with rfl | hc
 ·exact Nat.le_trans hsz hC
 ·rcases List.mem_cons.mp hc with rfl | hc
  ·exact Nat.le_trans hsz hD
  ·exact hf c hc
theorem Ex.assign_listcomp {x: Str} {px pos': Pos} {elt target iter: Expr} {ifs: List Expr} {scope: Scope} {pos: Pos} {cl: List (Str × Addr)} {Q: Post} {X: MH → Prop}
  (hclos: closureFor scope env = pure cl) (hcl: ClOk scope env cl) (hnd: (cl.map (·.1)).Nodup)
  (h: Its w B env d iter target ρ H (CompL w B env d elt target ifs scope cl ρ fun ys H' => ∀ n, H'.o n = none → Q .next (ρ.set x (.ref n)) (H'.set n (.list ys))))
  (hcell: ∀ y ∈ scope.names, y.2 ≠ .cell) (hkind: scope.kind = .function) (hnames: ∀ y ∈ scope.names, y.2 = .local → scope.names.lookup y.1 = some .local)
  (hx: Kept env x := by first | exact .inl rfl | exact .inr ⟨rfl, rfl⟩)
  (hsw: swapsWith (.ListComp elt [⟨target, iter, ifs, 0⟩] scope pos) (some (.Name x px)) pos'.line env = pure true := by rfl)
  (hs: ∀ x, foldedSetIterable iter env x = pure x := by intro uu; rfl) :
  Ex w B env d (.Assign [.Name x px] (.ListComp elt [⟨target, iter, ifs, 0⟩] scope pos) pos') ρ H Q X := by
 intro A fr s E Q' a hE S W K KX
 rw [exec_Assign_Name_used _ _ _ _ hsw]
 refine wpAny_bind (wpAny_standAt (wpAny_bind ?_))
 show wpAny _ A (do let _ ← comprehension (.ListComp elt [⟨target, iter, ifs, 0⟩] scope pos) scope env _ (newList []) false (eval iter env) (some (PySem.assign (.Name x px) env))) _ _ s
 refine wpAny_bind (wpAny_mono (wpAny_comprehension_free (use := some (PySem.assign (.Name x px) env)) (Q := fun uu s' => Q' .next s') rfl hs hclos hkind hnames
  (h A fr s E _ a S W fun I xs C fp St H1 s1 wk st hf hn g1 S1 zz => ?_)) (fun uu s' hq => wpAny_pure (wpAny_pure hq)) fun uu uu e => e)
 obtain ⟨Inv, hc, h0, hlen, turn, fin⟩ := zz
 refine comp_core (RR := fun acc C => compPost (model prg w) A E (some (PySem.assign (.Name x px) env)) (fun uu s' => Q' .next s') acc C) Inv hcell hkind hcl hnd a S1 (W.gr S g1) wk st (fun b hb => S.bfresh (hf b hb)) (fun b hb q => absurd (W.own_lt b q) (Nat.not_lt.mpr (hf b hb))) hlen hc h0 turn ?_
 intro D C' H' s' ys m hD hC hDC hns hmr g S' hc' inv oD oC
 have hsz := g1.ext.size
 have bC: B.get? C' = none := S1.bfresh hC
 have bD: B.get? D = none := S1.bfresh hD
 have nfr: ∀ x, s1.heap.objs.size ≤ x → ∀ env ∈ fr, env.frame ≠ some x := fun x hx env he q => absurd (S1.frLt env he x q) (Nat.not_lt.mpr hx)
 have olt: ∀ c, Own env c → c < s1.heap.objs.size := fun c hc => Nat.lt_of_lt_of_le (W.own_lt c hc) hsz
 have hfp: ∀ c ∈ C' :: D :: fp, s.heap.objs.size ≤ c := fun c hc => by
  rcases List.mem_cons.mp hc with rfl | hc
  ·exact Nat.le_trans hsz hC
  ·rcases List.mem_cons.mp hc with rfl | hc
   ·exact Nat.le_trans hsz hD
   ·exact hf c hc
 have onf: ∀ c, Own env c → c ∉ C' :: D :: fp := fun c hc q => absurd (W.own_lt c hc) (Nat.not_lt.mpr (hfp c q))
 have W1 := W.gr S g1
 have S2 := S'.adopt bD (nfr _ hD) hmr (Nat.lt_of_lt_of_le S1.low.1 hD)
 have g': Gr (· ∈ C' :: D :: fp) H1 s1 H' s' := g.weaken fun c hc => hc.resolve_left id
 have kt: TupKeep s1.heap s'.heap := S1.tupKeep g'.ext fun c o hc e xs n q => by
  rcases List.mem_cons.mp hc with rfl | hc
  ·exact absurd (Heap.lt_size e) (Nat.not_lt.mpr hC)
  ·rcases List.mem_cons.mp hc with rfl | hc
   ·exact absurd (Heap.lt_size e) (Nat.not_lt.mpr hD)
   ·obtain ⟨o', vs, e', uu, hd⟩ := wk.priv 0 _ st c hc
    obtain rfl := Option.some.inj (e.symm.trans e'); rw [hd] at q; cases q
 have g2': Gr (· ∈ C' :: D :: fp) H1 s1 (H'.set D (.list ys)) s' := g'.adopt hD
 have W2: Vars B env ρ (H'.set D (.list ys)) s'.heap := W1.gx g2' onf kt
 refine wpAny_assign_Name (store_name S2 W2 (.ref D) hx fun s3 g3 S3 W3 => ?_)
 obtain ⟨o, es, ep, eC, dC, rC⟩ := hns
 have oC2: (H'.set D (.list ys)).o C' = none := by rw [MH.set_ne H' _ (Ne.symm hDC)]; exact oC
 have nC: ¬ Own env C' := fun q => absurd (olt C' q) (Nat.not_lt.mpr hC)
 obtain ⟨o3, e3, d3, uu⟩ := g3.ext.fkeep C' o eC oC2 nC
 have hns3: s3.heap.Ns C' m := ⟨o3, es, ep, e3, d3.trans dC, rC⟩
 refine ⟨m, hns3, fun h' sb => ?_⟩
 obtain ⟨S4, g4, kt4⟩ := S3.free hns3 oC2 bC (nfr _ hC) sb
 have W4 := W3.gx g4 (fun b hb q => nC (by rw [← show b = C' from q]; exact hb)) kt4
 refine K _ .next _ _ _ ?_ S4 W4 .next (fin ys H' hc' inv D oD)
 refine Gr.fresh (fp := C' :: D :: fp) g1.up ?_ hfp
 exact ((g2'.weaken fun c hc => .inr hc).trans (g3.weaken fun c hc => .inl hc)).trans (g4.weaken fun c hc => .inr (by rw [show c = C' from hc]; exact .head _))
end
end Mine.Internal
end
section
open PySem PySem.W PySem.Calls PyProof.Rows
namespace Mine.Internal
noncomputable def pget (p: PL) (m: Mon): Option Rt := (p.find? fun e => decide (e.1 = m)).map (·.2)
noncomputable def pput (p: PL) (m: Mon) (c: Rt): PL := if (pget p m).isSome then p.map (fun e => if e.1 = m then (e.1, c) else e) else p ++ [(m, c)]
noncomputable def pdel (p: PL) (m: Mon): PL := p.filter fun e => decide (e.1 ≠ m)
noncomputable abbrev mk (m: Mon): List Int := [m.1, m.2]
theorem mk_inj {a b: Mon}: mk a = mk b ↔ a = b := by
 obtain ⟨a1, a2⟩ := a; obtain ⟨b1, b2⟩ := b
 simp [mk]
inductive DOH {prog: Program} {w: World} (k: HeapKind prog w (List Int)) (h: Heap) (d: Addr) (xs: List (List Int × Addr × Value)): Prop
 | mk (o: Obj) (es: Array DictEntry) (ep: Nat) (ho: h.get? d = some o) (hc: o.ExactDict) (hd: o.data = .dict es ep) (he: es.toList = xs.map (entryOfKey k)) (his: ∀ x ∈ xs, k.is h x.1 x.2.1) (hn: (xs.map (·.1)).Nodup)
theorem dcases {prog: Program} {w: World} {k: HeapKind prog w (List Int)} {h: Heap} {d: Addr} {xs: List (List Int × Addr × Value)} (x: h.DictOfH k d xs): DOH k h d xs := by
 obtain ⟨uu, uu, uu, a, b, c, d, e, f⟩ := x; exact ⟨_, _, _, a, b, c, d, e, f⟩
theorem all2_get {h: Heap} {m: Mon} {xs: List (List Int × Addr × Value)} {p: PL} (r: All2 (PE h) xs p): (atKey xs (mk m) = none ∧ pget p m = none) ∨ ∃ q c, atKey xs (mk m) = some q ∧ pget p m = some c ∧ VR h q.2 (rv c) := by
 induction r with
 | nil => exact .inl ⟨rfl, rfl⟩
 | @cons x e xs p hx r ih =>
  by_cases q: e.1 = m
  ·refine .inr ⟨x.2, e.2,?_,?_, hx.2.1⟩
   ·have: x.1 = mk m := by rw [hx.1, ← q]
    simp [atKey, List.find?_cons, this]
   ·simp [pget, List.find?_cons, q]
  ·have: ¬ x.1 = mk m := by rw [hx.1]; exact fun h => q (mk_inj.mp h)
   have e1: atKey (x :: xs) (mk m) = atKey xs (mk m) := by simp [atKey, List.find?_cons, this]
   have e2: pget (e :: p) m = pget p m := by simp [pget, List.find?_cons, q]
   rw [e1, e2]; exact ih
theorem all2_map {h: Heap} {m: Mon} {c: Rt} {v: Value} (hv: VR h v (rv c)) {xs: List (List Int × Addr × Value)} {p: PL} (r: All2 (PE h) xs p): All2 (PE h) (xs.map (putAt (mk m) v)) (p.map fun e => if e.1 = m then (e.1, c) else e) := by
 induction r with
 | nil => exact .nil
 | @cons x e xs p hx r ih =>
  refine .cons ?_ ih
  by_cases q: e.1 = m
  ·have: x.1 = mk m := by rw [hx.1, ← q]
   dsimp only
   rw [putAt, if_pos this, if_pos q]
   exact ⟨hx.1, hv, hx.2.2⟩
  ·have: ¬ x.1 = mk m := by rw [hx.1]; exact fun h => q (mk_inj.mp h)
   dsimp only
   rw [putAt, if_neg this, if_neg q]; exact hx
theorem all2_put {h: Heap} {m: Mon} {c: Rt} {v: Value} {a: Addr} (hv: VR h v (rv c)) (hk: VR h (.ref a) (mv m)) {xs: List (List Int × Addr × Value)} {p: PL} (r: All2 (PE h) xs p): All2 (PE h) (storedH xs (mk m) a v) (pput p m c) := by
 rcases all2_get (m := m) r with ⟨h1, h2⟩ | ⟨q, c', h1, h2, uu⟩
 ·rw [storedH_new h1, pput, h2]
  exact r.append (.cons ⟨rfl, hv, hk⟩ .nil)
 ·rw [storedH_old h1, pput, h2]
  exact all2_map hv r
theorem all2_del {h: Heap} {m: Mon} {xs: List (List Int × Addr × Value)} {p: PL} (r: All2 (PE h) xs p): All2 (PE h) (xs.filter fun x => decide (x.1 ≠ mk m)) (pdel p m) := by
 induction r with
 | nil => exact .nil
 | @cons x e xs p hx r ih =>
  by_cases q: e.1 = m
  ·have: x.1 = mk m := by rw [hx.1, ← q]
   rw [List.filter_cons_of_neg (by simp [this]), pdel, List.filter_cons_of_neg (by simp [q])]
   exact ih
  ·have: ¬ x.1 = mk m := by rw [hx.1]; exact fun h => q (mk_inj.mp h)
   rw [List.filter_cons_of_pos (by simpa using this), pdel, List.filter_cons_of_pos (by simpa using q)]
   exact .cons hx ih
theorem map_erase {α β: Type} (f: α → β): ∀ (l: List α) (j: Nat), (l.map f).eraseIdx j = (l.eraseIdx j).map f
 | [], _ => by simp
 | _ :: _, 0 => by simp
 | x :: l, j + 1 => by simp [map_erase f l j]
theorem erase_filter {k: List Int}: ∀ {xs: List (List Int × Addr × Value)} {j: Nat} {q: Addr × Value}, (xs.map (·.1)).Nodup → xs[j]? = some (k, q) → xs.eraseIdx j = xs.filter fun x => decide (x.1 ≠ k) := by
 intro xs
 induction xs with
 | nil => intro j q uu e; simp at e
 | cons x xs ih =>
  intro j q hn e
  rw [List.map_cons, List.nodup_cons] at hn
  cases j with
  | zero =>
   simp at e; subst e
   rw [List.eraseIdx_cons_zero, List.filter_cons_of_neg (by simp)]
   refine (List.filter_eq_self.mpr fun y hy => ?_).symm
   have: y.1 ≠ k := fun q => hn.1 (List.mem_map.mpr ⟨y, hy, q⟩)
   simpa using this
  | succ j =>
   simp at e
   have hne: ¬ x.1 = k := fun qq => hn.1 (List.mem_map.mpr ⟨_, List.mem_of_getElem? e, qq.symm⟩)
   rw [List.eraseIdx_cons_succ, List.filter_cons_of_pos (by simpa using hne), ih hn.2 e]
section
variable {w: World} {B: Heap} {env: Env} {d: Nat} {ρ: Rho} {H: MH} {Q: V → MH → Prop} {fr: List Env}
theorem key_of {h: Heap} {m: Mon} {val: Value} (r: VR h val (mv m)): ∃ a, val = .ref a ∧ IsTupleKey (intKind prg w) h (mk m) a := by
 obtain ⟨a, vals, n, rfl, e, rs⟩ := r.itup
 refine ⟨a, rfl, _, _, n, e, rfl, rfl,?_⟩
 obtain ⟨uu, uu, rfl, r1, rs⟩ := rs.icons
 obtain ⟨uu, uu, rfl, r2, rs⟩ := rs.icons
 obtain rfl := rs.inil; obtain ⟨uu, rfl⟩ := r1.iint; obtain ⟨uu, rfl⟩ := r2.iint
 exact .cons (intKind_is ..) (.cons (intKind_is ..) .nil)
theorem HS.nsys {s: Shared} (S: HS w B fr H s) {a: Addr} {mo: MO} (e: H.o a = some mo): (a == sysModules) = false := by
 have := S.low.2 a (by rw [e]; simp)
 exact beq_eq_false_iff_ne.mpr (Nat.ne_of_gt this)
theorem HS.poly {s: Shared} (S: HS w B fr H s) {a: Addr} {p: PL} (e: H.o a = some (.poly p)): ∃ xs, s.heap.DictOfH (tkd w) a xs ∧ All2 (PE s.heap) xs p := S.rep a _ e
theorem room_tkd {A: Around} (a: AOk d fr A): (tkd w).room A.in1 := a.room1
theorem Iti.poly {a: Addr} {p: PL} {m: Mon} {c: Rt} (ha: H.o a = some (.poly p)) (hc: pget p m = some c) (h: Q (rv c) H): Iti w B d (.ref a) (mv m) H Q := by
 intro s va vb ra rb value slice hs A fr E Q' A' S K
 obtain rfl := ra.iref
 obtain ⟨k, rfl, hk⟩ := key_of (w := w) rb
 obtain ⟨xs, hm, r⟩ := S.poly ha
 rcases all2_get (m := m) r with ⟨uu, h2⟩ | ⟨q, c', h1, h2, hv⟩
 ·exact snF (hc.symm.trans h2)
 ·obtain rfl := Option.some.inj (hc.symm.trans h2)
  exact tail_any hm.typeIs slot_dict_getitem.lookup (wpAny_getItem_heap (room_tkd A') hk hm h1 (K _ _ _ _ (Gr.tok _) (S.tok _) hv h)) hs
theorem Cmp.in_poly {a: Addr} {p: PL} {m: Mon} (ha: H.o a = some (.poly p)) (h: Q (.bool (pget p m).isSome) H): Cmp w B d .In (mv m) (.ref a) H Q := by
 intro s va vb ra rb A fr E Q' A' S K
 obtain rfl := rb.iref
 obtain ⟨k, rfl, hk⟩ := key_of (w := w) ra
 obtain ⟨xs, hm, r⟩ := S.poly ha
 refine wpAny_in_heap (room_tkd A') hk (S.nsys ha) hm (K _ (.bool (atKey xs (mk m)).isSome) H _ (Gr.tok _) (S.tok _) (.bool _) ?_)
 rcases all2_get (m := m) r with ⟨h1, h2⟩ | ⟨q, c', h1, h2, hv⟩
 ·rw [h1]; rw [h2] at h; exact h
 ·rw [h1]; rw [h2] at h; exact h
theorem setItem_poly {A: Around} {s: Shared} {a: Addr} {p: PL} {m: Mon} {c: Rt} {kv vv: Value} {E: Value → Shared → Prop} {Q': Unit → Shared → Prop} (A': AOk d fr A) (S: HS w B fr H s) (ha: H.o a = some (.poly p)) (hl: p.length ≤ 1000000)
  (rk: VR s.heap kv (mv m)) (rc: VR s.heap vv (rv c)) (K: ∀ s', Gr NoX H s (H.set a (.poly (pput p m c))) s' → HS w B fr (H.set a (.poly (pput p m c))) s' → Q' () s') :
  wpAny (model prg w) A (setItem (.ref a) kv vv) Q' E s := by
 obtain ⟨k, rfl, hk⟩ := key_of (w := w) rk
 obtain ⟨xs, hm, r⟩ := S.poly ha
 refine wpAny_setItem_heap (room_tkd A') hk hm (fun h' hm' sb => ?_) (by rw [r.length, sizeLine]; exact Nat.le_trans ‹_› (by decide))
 exact K _ (Gr.upd ha sb) (S.upd ha sb fun kt => ⟨_, hm', all2_put (VR.mono' kt rc) (VR.mono' kt rk) (r.mono fun uu uu q => ⟨q.1, VR.mono' kt q.2.1, VR.mono' kt q.2.2⟩)⟩)
theorem dictSet_poly {A: Around} {s: Shared} {a: Addr} {p: PL} {xs: List (List Int × Addr × Value)} {m: Mon} {c: Rt} {kv vv: Value} {E: Value → Shared → Prop} {Q': Unit → Shared → Prop} (A': AOk d fr A) (hm: s.heap.DictOfH (tkd w) a xs) (r: All2 (PE s.heap) xs p) (hl: p.length ≤ 1000000)
  (rk: VR s.heap kv (mv m)) (K: ∀ h' t ys, Heap.SameBut a s.heap h' → h'.DictOfH (tkd w) a ys → (TupKeep s.heap h' → VR s.heap vv (rv c) → All2 (PE h') ys (pput p m c)) → Q' () { s with heap := h', toks := t }) :
  wpAny (model prg w) A (dictSet a kv vv) Q' E s := by
 obtain ⟨k, rfl, hk⟩ := key_of (w := w) rk
 refine wpAny_dictSet_heap (A'.room) hk hm (fun h' hm' sb => ?_) (by rw [r.length, sizeLine]; exact Nat.le_trans ‹_› (by decide))
 exact K _ _ _ sb hm' fun kt rc => all2_put (VR.mono' kt rc) (VR.mono' kt rk) (r.mono fun uu uu q => ⟨q.1, VR.mono' kt q.2.1, VR.mono' kt q.2.2⟩)
theorem takeOut_poly {A: Around} {s: Shared} {a k: Addr} {xs: List (List Int × Addr × Value)} {ks: List Int} {E: Value → Shared → Prop} {Q': Option DictEntry → Shared → Prop} (hu: A.units < cLine) (hm: s.heap.DictOfH (tkd w) a xs) (hl: xs.length ≤ 1000000)
  (hk: IsTupleKey (intKind prg w) s.heap ks k) (hnone: atKey xs ks = none → ∀ t, Q' none { s with toks := t })
  (hsome: ∀ e q h' t, atKey xs ks = some q → e.val = q.2 → h'.DictOfH (tkd w) a (xs.filter fun x => decide (x.1 ≠ ks)) → Heap.SameBut a s.heap h' → Q' (some e) { s with heap := h', toks := t }) :
  wpAny (model prg w) A (Builtin.Dict.takeOut a (.ref k)) Q' E s := by
 obtain ⟨o, es, ep, ho, hc, hd, he, his, hn⟩ := dcases hm
 unfold Builtin.Dict.takeOut
 refine wpAny_holding ?_
 refine wpAny_bind ((tkd w).pyHash hu hk (wpAny_bind (wpAny_dictFind_heap (s := { s with toks := s.toks + (tkd w).draws ks }) hu hk ho hd he his hn ?_ ?_)))
 ·intro hno
  exact wpAny_pure (hnone (atKey_none_of_get hno) _)
 ·intro j p hj
  have hsz := size_of_entries he
  refine wpAny_bind (wpAny_dictEntries (s := { s with toks := s.toks + (tkd w).draws ks }) ho hd ?_)
  rw [entry_at he j, hj]
  refine wpAny_bind (wpAny_updateDictKeys (hz := by rw [hsz, sizeLine]; exact Nat.le_trans ‹_› (by decide)) (s := { s with toks := s.toks + (tkd w).draws ks }) ho hd (wpAny_pure (hsome _ p _ _ (atKey_of_get hn hj) rfl
   ⟨_, _, ep + 1, Heap.get?_update_self _ ho (Obj.isFreed_of_dict (Obj.data_mapDictKeys hd _)), hc.mapDictKeys _, Obj.data_mapDictKeys hd _,?_,?_,?_⟩ (Heap.SameBut.update ..))))
  ·rw [← erase_filter hn hj, ← map_erase, ← he]
   obtain ⟨l⟩ := es
   simp
  ·intro x hx
   exact (tkd w).keeps (his x (List.mem_filter.mp hx).1) ho hd (Heap.SameBut.update ..)
  ·exact hn.sublist (List.Sublist.map _ List.filter_sublist)
end
end Mine.Internal
end
section
open PySem PySem.W PySem.Calls PyProof.Rows
namespace Mine.Internal
section
variable {prog: Program} {w: World} {A: Around} {E: Value → Shared → Prop} {s: Shared}
noncomputable def RawD (h: Heap) (d: Addr) (es: Array DictEntry) (ep: Nat): Prop := ∃ o, h.get? d = some o ∧ o.ExactDict ∧ o.data = .dict es ep
theorem RawD.typeIs {es: Array DictEntry} {ep: Nat} {d: Addr} (x: RawD s.heap d es ep): s.TypeIs (.ref d) "dict" := x.elim fun o r => ⟨o, r.1, r.2.1.1⟩
theorem iter_raw {d: Addr} {es: Array DictEntry} {ep: Nat} {Q: Value → Shared → Prop} (hd: (d == sysModules) = false) (hm: RawD s.heap d es ep)
  (hQ: Q (.ref s.heap.objs.size) { s with heap := s.heap.push { cls := .type "dict_keyiterator", data := .fields #[.ref d, .int 0 0, .int es.size 0, .int ep 0] } }) :
  wpAny (model prog w) A (pyIter (.ref d)) Q E s := by
 have hT := hm.typeIs
 obtain ⟨o, ho, hc, hdat⟩ := hm
 refine wpAny_pyIter_slot hT F.slot_dict_iter (wpAny_call_entry F.slot_dict_iter hT F.entry_dict_iter ?_ (F.args_dict_iter_1 _))
 unfold Builtin.«dict.__iter__»
 refine wpAny_bind ?_
 unfold Builtin.Dict.dictSlotNone
 refine wpAny_bind (wpAny_notOrdered_dict hT (show wpAny _ _ (pure (Value.ref d)) _ _ s from wpAny_pure ?_))
 show wpAny _ _ (Builtin.Dict.showsAll d >>= _) _ _ s
 unfold Builtin.Dict.showsAll
 rw [if_neg (by rw [hd]; exact Bool.false_ne_true)]
 refine wpAny_bind (wpAny_pure (wpAny_bind (wpAny_dictEntries ho hdat (wpAny_bind (wpAny_dictEpoch ho hdat ?_)))))
 exact wpAny_bind (wpAny_newObj_type (wpAny_pure ⟨_, rfl, "dict_keyiterator", _, ⟨_, Heap.get?_push_size _ rfl, rfl⟩, F.slot_dict_keyiterator_next.lookup, hQ⟩))
theorem next_raw {it d: Addr} {i ep: Nat} {es: Array DictEntry} {e: DictEntry} {Q: Option Value → Shared → Prop} (hit: s.heap.IsKeyIter it d i es.size ep) (hm: RawD s.heap d es ep) (hx: es[i]? = some e)
  (hQ: ∀ h', h'.IsKeyIter it d (i + 1) es.size ep → Heap.SameBut it s.heap h' → Q (some e.key) { s with heap := h' }): wpAny (model prog w) A (pyNext (.ref it)) Q E s := by
 obtain ⟨o, ho, hc, hd⟩ := id hit
 obtain ⟨od, hod, hcd, hdd⟩ := hm
 unfold pyNext
 refine wpAny_bind (wpAny_attempt (wpAny_callSpecial?_slot (name := Str.ofString "__next__") hit.typeIs F.slot_dict_keyiterator_next
  (wpAny_call_entry F.slot_dict_keyiterator_next hit.typeIs F.entry_dict_keyiterator_next ?_ (F.args_dict_keyiterator_next_1 _))))
 refine wpAny_bind (wpAny_pure (wpAny_bind (wpAny_bind ?_)))
 first | refine wpAny_bind (wpAny_typeNameOfWhole_keyiter hit.typeIs (wpAny_pure ?_)) | refine wpAny_bind (wpAny_typeNameOf_keyiter hit.typeIs (wpAny_pure ?_))
 refine wpAny_bind (wpAny_fieldsOf ho hd ?_)
 rw [if_neg (show ¬ Builtin.Dict_items.ownsTuple "dict_keyiterator" = true by decide)]
 show wpAny _ _ (if (Value.ref d == Value.none) = true then _ else _) _ _ s
 rw [if_neg (show ¬ ((Value.ref d == Value.none) = true) from Bool.false_ne_true)]
 refine wpAny_bind (wpAny_pure (wpAny_bind (wpAny_dictEntries hod hdd ?_)))
 rw [if_neg (by simp)]
 refine wpAny_bind (wpAny_pure (wpAny_bind (wpAny_dictEpoch hod hdd ?_)))
 rw [if_neg (by simp)]
 refine wpAny_pure ?_
 dsimp only
 rw [if_neg (Int.not_lt.mpr (Int.natCast_nonneg i)), Int.toNat_natCast, hx]
 dsimp only
 refine wpAny_bind ?_
 first | refine wpAny_bind (wpAny_typeNameOfWhole_keyiter hit.typeIs (wpAny_pure ?_)) | refine wpAny_bind (wpAny_typeNameOf_keyiter hit.typeIs (wpAny_pure ?_))
 refine wpAny_bind (wpAny_isOneOf_keyiter hit.typeIs ?_)
 show wpAny _ _ (setField (.ref it) 1 (rawInt ((i: Int) + 1)) >>= _) _ _ s
 refine wpAny_bind (wpAny_setField ho hd (by simp) ?_)
 have hit': (s.heap.update it (Obj.mapFields (·.setIfInBounds 1 (rawInt ((i: Int) + 1))))).IsKeyIter it d (i + 1) es.size ep :=
  ⟨_, Heap.get?_update_self _ ho (Obj.isFreed_of_fields (Obj.data_mapFields hd _)), (Obj.cls_mapFields ..).trans hc, by rw [Obj.data_mapFields hd]; simp [rawInt]⟩
 refine wpAny_bind (wpAny_holding ?_)
 refine wpAny_bind (wpAny_isOneOf_keyiter (s := { s with heap := s.heap.update it (Obj.mapFields (·.setIfInBounds 1 (rawInt ((i: Int) + 1)))) }) hit'.typeIs ?_)
 show wpAny _ _ (pure e.key) _ _ _
 exact wpAny_pure (wpAny_pure ⟨_, rfl, wpAny_pure (hQ _ hit' (Heap.SameBut.update ..))⟩)
theorem end_raw {it d: Addr} {i ep: Nat} {es: Array DictEntry} {Q: Option Value → Shared → Prop} (hh: A.handled = none) (hit: s.heap.IsKeyIter it d i es.size ep) (hm: RawD s.heap d es ep) (hx: es.size ≤ i)
  (hQ: ∀ h', Heap.ExtBut it s.heap h' → Q none { s with heap := h' }): wpAny (model prog w) A (pyNext (.ref it)) Q E s := by
 obtain ⟨o, ho, hc, hd⟩ := id hit
 obtain ⟨od, hod, hcd, hdd⟩ := hm
 unfold pyNext
 refine wpAny_bind (wpAny_attempt (wpAny_callSpecial?_slot (name := Str.ofString "__next__") hit.typeIs F.slot_dict_keyiterator_next
  (wpAny_call_entry F.slot_dict_keyiterator_next hit.typeIs F.entry_dict_keyiterator_next ?_ (F.args_dict_keyiterator_next_1 _))))
 refine wpAny_bind (wpAny_pure (wpAny_bind (wpAny_bind ?_)))
 first | refine wpAny_bind (wpAny_typeNameOfWhole_keyiter hit.typeIs (wpAny_pure ?_)) | refine wpAny_bind (wpAny_typeNameOf_keyiter hit.typeIs (wpAny_pure ?_))
 refine wpAny_bind (wpAny_fieldsOf ho hd ?_)
 rw [if_neg (show ¬ Builtin.Dict_items.ownsTuple "dict_keyiterator" = true by decide)]
 show wpAny _ _ (if (Value.ref d == Value.none) = true then _ else _) _ _ s
 rw [if_neg (show ¬ ((Value.ref d == Value.none) = true) from Bool.false_ne_true)]
 refine wpAny_bind (wpAny_pure (wpAny_bind (wpAny_dictEntries hod hdd ?_)))
 rw [if_neg (by simp)]
 refine wpAny_bind (wpAny_pure (wpAny_bind (wpAny_dictEpoch hod hdd ?_)))
 rw [if_neg (by simp)]
 refine wpAny_pure ?_
 dsimp only
 rw [if_neg (Int.not_lt.mpr (Int.natCast_nonneg i)), Int.toNat_natCast, Array.getElem?_eq_none hx]
 dsimp only
 refine wpAny_bind ?_
 first | refine wpAny_bind (wpAny_typeNameOfWhole_keyiter hit.typeIs (wpAny_pure ?_)) | refine wpAny_bind (wpAny_typeNameOf_keyiter hit.typeIs (wpAny_pure ?_))
 show wpAny _ _ (setField (.ref it) 0 .none >>= _) _ _ s
 refine wpAny_bind (wpAny_setField ho hd (by simp) ?_)
 show wpAny _ _ (newExc (.type "StopIteration") [] >>= _) _ _ _
 refine wpAny_bind ?_
 simp only [newExc, newTuple]
 refine wpAny_bind (wpAny_newObj_type ?_ (by size_fits))
 refine wpAny_bind (m := firstArgMember _ _) (wpAny_of_eq (a := Value.none) (by first | rfl | (simp only [firstArgMember]; rfl)) ?_)
 refine wpAny_newObj_type ?_ (by size_fits)
 unfold raiseNew
 dsimp only
 refine wpAny_bind (wpAny_handled ?_)
 rw [show A.in1.handled = none from hh]
 refine wpAny_bind (wpAny_pure (wpAny_throw ?_))
 refine wpAny_bind (wpAny_isInstance (T := "StopIteration") (b := true) ⟨_, Heap.get?_push_size _ rfl, rfl⟩ isSubtype_stop ?_)
 exact wpAny_pure (hQ _ (((Heap.SameBut.update ..).extBut.push _).push _))
end
section
variable {w: World} {B: Heap} {env: Env} {d: Nat} {ρ: Rho} {H: MH} {Q: V → MH → Prop} {fr: List Env}
theorem All2.get {α β: Type} {R: α → β → Prop} {as: List α} {bs: List β} (r: All2 R as bs): ∀ {i: Nat} {b: β}, bs[i]? = some b → ∃ a, as[i]? = some a ∧ R a b := by
 induction r with
 | nil => exact fun e => nsF e
 | @cons a b as bs h uu ih =>
  intro i c e
  cases i with
  | zero => exact ⟨a, rfl, Option.some.inj e ▸ h⟩
  | succ i => exact ih e
theorem Itb.poly {x: Str} {px: Pos} {a: Addr} {p: PL} (ha: H.o a = some (.poly p)): Itb w B d (.Name x px) (.ref a) H (p.map fun e => mv e.1) (fun H' => H'.o a = some (.poly p) ∧ H'.ver a = H.ver a) := by
 intro A fr s val E Q' a' S r K
 obtain rfl := r.iref
 obtain ⟨xs, hm, rs⟩ := S.poly ha
 obtain ⟨o, es, ep, ho, hc, hd, he, his, hn⟩ := dcases hm
 have hsz: es.size = p.length := (size_of_entries he).trans rs.length
 have raw: RawD s.heap a es ep := ⟨o, ho, hc, hd⟩
 have kp := Keep.push s.heap { cls := .type "dict_keyiterator", data := .fields #[.ref a, .int 0 0, .int es.size 0, .int ep 0] }
 refine iter_raw (S.nsys ha) raw (K _ [s.heap.objs.size] (fun i h => h.IsKeyIter s.heap.objs.size a i es.size ep ∧ h.get? a = some o ∧ All2 (fun e (m: Mon × Rt) => VR h e.key (mv m.1)) es.toList p) _ ?_ ⟨⟨_, Heap.get?_push_size _ rfl, rfl, by simp⟩, kp _ _ ho,?_⟩ (fun b hb => by rw [List.mem_singleton] at hb; rw [hb]; exact Nat.le_refl _) (Gr.keep (t := s.toks) kp (by simp)) (S.keep (t := s.toks) kp (by simp)))
 ·refine genE_ s.heap.objs.size ?_
  intro I hI
  refine ⟨⟨[a], fun H1 H2 h1 h2 b hb => by rw [List.mem_singleton] at hb; subst hb; exact ⟨by rw [h1.1]; simp, by rw [h1.2, h2.2]⟩, fun i h h' st kt k kd => ⟨?_, kd a (by simp) _ st.2.1, st.2.2.mono fun uu uu r => VR.mono' kt r⟩⟩, fun i h st b hb => ?_, fun i x A fr H1 s E Q' a'' S hc' hH hB st hx K => ?_, fun A fr H1 s E Q' a'' S hc' hH hB st K => ?_, fun i A s Q E st q => ?_⟩
  ·obtain ⟨oi, e, c, dd⟩ := st.1
   exact ⟨oi, k I (by simp) _ e, c, dd⟩
  ·simp at hb; subst hb
   obtain ⟨⟨o, e, c, dd⟩, uu⟩ := st
   exact ⟨o, _, e, by rw [c]; decide, dd⟩
  ·obtain ⟨st, e, rs⟩ := st
   rw [List.getElem?_map] at hx
   cases hpi: p[i]? with
   | none => rw [hpi] at hx; cases hx
   | some m =>
    rw [hpi] at hx; cases hx
    obtain ⟨en, hen, ren⟩ := rs.get hpi
    have hf: ∀ o, s.heap.get? I = some o → ∃ vs, o.data = .fields vs := fun o e' => by obtain ⟨o2, e2, c2, d2⟩ := st; obtain rfl := Option.some.inj (e'.symm.trans e2); exact ⟨_, d2⟩
    have hen': es[i]? = some en := by rw [← Array.getElem?_toList]; exact hen
    have neI: a ≠ I := fun q => by have := hH I (by simp); rw [← q, hc'.1] at this; exact snF this
    refine sized (next_raw st ⟨o, e, hc, hd⟩ hen' fun h' st' sb hz => ?_)
    obtain ⟨S', g, kt⟩ := stepPriv (t := s.toks) S hH hB hf sb.extBut hz
    exact K en.key _ fun E2 Q2 k2 => wpAny_of_eq letGo_name (k2 _ g S' ⟨st', (sb.2 a neI).trans e, rs.mono fun uu uu r => VR.mono' kt r⟩ (VR.mono' kt ren))
  ·obtain ⟨st, e, rs⟩ := st
   have hf: ∀ o, s.heap.get? I = some o → ∃ vs, o.data = .fields vs := fun o e' => by obtain ⟨o2, e2, c2, d2⟩ := st; obtain rfl := Option.some.inj (e'.symm.trans e2); exact ⟨_, d2⟩
   refine sized (end_raw a''.handled st ⟨o, e, hc, hd⟩ (by rw [List.length_map]; exact Nat.le_of_eq ‹_›) fun h' sb hz => ?_)
   obtain ⟨S', g, kt⟩ := stepPriv (t := s.toks) S hH hB hf sb hz
   exact K _ g S'
  ·exact wpAny_pyIter_slot st.1.typeIs F.slot_dict_keyiterator_iter (wpAny_call_entry F.slot_dict_keyiterator_iter st.1.typeIs F.entry_dict_keyiterator_iter (by
    refine wpAny_pure ⟨_, rfl, "dict_keyiterator", _, st.1.typeIs, F.slot_dict_keyiterator_next.lookup, q⟩) (F.args_dict_keyiterator_iter_1 _))
 ·rw [he]
  have: ∀ {xs: List (List Int × Addr × Value)} {p: PL}, All2 (PE s.heap) xs p → All2 (fun e (m: Mon × Rt) => VR s.heap e.key (mv m.1)) (xs.map (entryOfKey (tkd w))) p := by
   intro xs p r
   induction r with
   | nil => exact .nil
   | cons h uu ih => exact .cons h.2.2 ih
  exact (this rs).mono fun uu uu r => VR.mono' (Keep.tup kp) r
end
end Mine.Internal
end
section
open PySem PySem.W PySem.Calls PyProof.Rows
namespace Mine.Internal
section
variable {prog: Program} {w: World} {A: Around} {E: Value → Shared → Prop} {R: Result → Shared → Prop} {s: Shared}
section
variable (prog: Program) (w: World) (A: Around) (R: Result → Shared → Prop) (env: Env) (I: Nat → Shared → Prop) (n: Nat)
@[reducible] noncomputable def LD5 (D: Addr) (kv: Value): Value → Shared → Prop := fun vv s₅ => wpAny (model prog w) A (dictSet D kv vv) (LE I n) (LN prog w A R env) s₅
@[reducible] noncomputable def LD4 (D: Addr) (vx: Expr): Value → Shared → Prop := fun kv s₄ => wpAny (model prog w) A (eval vx env) (LD5 prog w A R env I n D kv) (LN prog w A R env) s₄
@[reducible] noncomputable def LD3 (D: Addr) (kx vx: Expr): Unit → Shared → Prop := fun uu s₂ => wpAny (model prog w) A (eval kx env) (LD4 prog w A R env I n D vx) (LN prog w A R env) s₂
end
theorem compLoopD_any {kx vx target iter: Expr} {scope: Scope} {pos: Pos} {it: Value} {D: Addr} {env: Env} (I: Nat → Shared → Prop)
  (turn: ∀ n s, I n s → wpAny (model prog w) A (pyNext it) (L1 prog w A R env (LD3 prog w A R env I n D kx vx) target it) (LN prog w A R env) s)
  (n: Nat) (h: I n s): codeAny (model prog w) A (.compLoop (.DictComp kx vx [⟨target, iter, [], 0⟩] scope pos) 0 it (.ref D) env) R s := by
 refine codeAny_loop rfl I (fun n s hI => ?_) n h
 show wpAny _ A ((compTurn (.DictComp kx vx [⟨target, iter, [], 0⟩] scope pos) 0 it (.ref D) env).onRaise (fun x => do noteFrame x env; theTreesLotGoes x)) _ _ s
 refine wpAny_noted ?_
 rw [compTurn_dict]
 refine wpAny_bind (wpAny_standAt (wpAny_bind (wpAny_mono (turn n s hI) (fun r s₁ h₁ => ?_) fun uu uu h' => h')))
 cases r with
 | none => exact wpAny_pure h₁
 | some v =>
  refine wpAny_bind (wpAny_mono h₁ (fun uu s₁' h₁' => ?_) fun uu uu h' => h')
  refine wpAny_bind (wpAny_mono h₁' (fun uu s₂ h₂ => wpAny_bind (wpAny_tests_nil ?_)) fun uu uu h' => h')
  exact wpAny_bind (wpAny_bind (wpAny_mono h₂ (fun kv s₄ h₄ => wpAny_bind (wpAny_holding (wpAny_mono h₄ (fun vv s₅ h₅ => wpAny_bind (wpAny_standAt (wpAny_holding (wpAny_mono h₅ (fun uu s₆ h₆ => wpAny_pure ⟨rfl, h₆⟩) fun uu uu h' => h')))) fun uu uu h' => h'))) fun uu uu h' => h'))
end
section
variable {w: World} {B: Heap} {env: Env} {d: Nat} {ρ: Rho} {H: MH} {fr: List Env}
section
variable (w: World) (B: Heap) (cenv: Env) (d: Nat) (kx vx target: Expr) (cl: List (Str × Addr)) (ρ: Rho) (C: MH → Prop) (I: PL → MH → Prop)
@[reducible] noncomputable def TV (ys: PL) (k: V): V → MH → Prop := fun v H3 => ∃ m c, k = mv m ∧ v = rv c ∧ C H3 ∧ I (pput ys m c) H3
@[reducible] noncomputable def TK (ρ1: Rho) (ys: PL): V → MH → Prop := fun k H2 => Ev w B cenv d vx ρ1 H2 (TV C I ys k)
inductive TnD (x: V) (ys: PL) (H': MH): Prop
 | mk (ρ1: Rho) (asg: AsgL w B cenv d target x (inner cl ρ) ρ1) (sub: ∀ y, (cl.lookup y).isSome = true → ρ1 y = ρ y) (body: Ev w B cenv d kx ρ1 H' (TK w B cenv d vx C I ρ1 ys))
end
inductive CID (w: World) (B: Heap) (fr: List Env) (H: MH) (s₁: Shared) (cenv: Env) (ρ0: Rho) (D C': Addr) (fp: List Addr) (St: Nat → Heap → Prop) (C: MH → Prop) (Inv: Nat → PL → MH → Prop) (n k: Nat) (s': Shared): Prop
 | mk (i: Nat) (ys: PL) (H': MH) (es: List (List Int × Addr × Value)) (hk: k = n + 1 - i) (hi: i ≤ n) (hyl: ys.length ≤ i) (g2: Gr (fun c => False ∨ c ∈ C' :: D :: fp) H s₁ H' s') (S2: HS w B fr H' s') (W2: Vars B cenv ρ0 H' s'.heap) (st2: St i s'.heap) (hc2: C H') (inv: Inv i ys H')
   (pl: s'.heap.DictOfH (tkd w) D es) (rs: All2 (PE s'.heap) es ys) (oD2: H'.o D = none) (oC2: H'.o C' = none)
theorem dictMove {h h': Heap} {D: Addr} {es: List (List Int × Addr × Value)} (x: h.DictOfH (tkd w) D es) (hk: ∀ o, h.get? D = some o → o.cls ≠ .type "frame" → h'.get? D = some o) (kt: TupKeep h h'): h'.DictOfH (tkd w) D es := by
 obtain ⟨o, e1, e2, e3, h1, h2, h3, h4, h5⟩ := x
 refine ⟨o, e1, e2, hk _ e3 (by rw [h1.1]; decide), h1, h2, h3, fun y hy => ?_, h5⟩
 obtain ⟨o', items, n, e', hc, hd, hi⟩ := h4 y hy
 exact ⟨o', items, n, kt _ _ e' hc ⟨_, _, hd⟩, hc, hd, hi⟩
theorem peMove {h h': Heap} {es: List (List Int × Addr × Value)} {ys: PL} (kt: TupKeep h h') (r: All2 (PE h) es ys): All2 (PE h') es ys := r.mono fun uu uu q => ⟨q.1, VR.mono' kt q.2.1, VR.mono' kt q.2.2⟩
theorem newDictAt {s: Shared} {D: Addr} (e: s.heap.get? D = some { cls := .type "dict", dict := none, data := .dict #[] }): s.heap.DictOfH (tkd w) D [] :=
 ⟨_, #[], 0, e, ⟨rfl, rfl, rfl⟩, rfl, rfl, fun y hy => (nomatch hy), .nil⟩
theorem dcomp_core {kx vx target iter: Expr} {scope: Scope} {pos: Pos} {cl: List (Str × Addr)} {xs: List V} {C: MH → Prop} {fp: List Addr} {St: Nat → Heap → Prop} {I: Addr} {A: Around} {s: Shared} {E: Value → Shared → Prop}
  {RR: Value → Addr → Result → Shared → Prop} (Inv: Nat → PL → MH → Prop)
  (hcell: ∀ y ∈ scope.names, y.2 ≠ .cell) (hkind: scope.kind = .function) (hcl: ClOk scope env cl) (hnd: (cl.map (·.1)).Nodup)
  (a: AOk d fr A) (S: HS w B fr H s) (W: Vars B env ρ H s.heap) (wk: Wk w B d target I xs C fp St) (st: St 0 s.heap) (hfB: ∀ b ∈ fp, B.get? b = none) (hfO: ∀ b ∈ fp, ¬ Own env b) (hlen: xs.length ≤ 1000000)
  (hc: C H) (h0: Inv 0 [] H)
  (turn: ∀ L i x ys H', xs[i]? = some x → C H' → Inv i ys H' → TnD w B (compEnvC scope cl L env) d kx vx target cl ρ C (Inv (i + 1)) x ys H')
  (hRR: ∀ D C' H' s' ys m, s.heap.objs.size ≤ D → s.heap.objs.size ≤ C' → D ≠ C' → s'.heap.Ns C' m → MR w s'.heap D (.poly ys) → Gr (fun c => False ∨ c ∈ C' :: D :: fp) H s H' s' → HS w B fr H' s' → C H' → Inv xs.length ys H' →
   H'.o D = none → H'.o C' = none → RR (.ref D) C' (.ok .next) s') :
  wpAny (model prg w) A newDict (fun acc s₃ => wpAny (model prg w) A (newFunctionEnv scope env.globals cl [] env.qual none .none (some env)) (fun cenv s₄ =>
   codeAny (model prg w) A (.compStart (.DictComp kx vx [⟨target, iter, [], 0⟩] scope pos) 0 (.ref I) acc { cenv with scope := relabel scope env }) (RR acc cenv.locals) s₄) E s₃) E s := by
 refine comp_start (fun h => wpAny_newObj_type h) codeAny_compStart_dict hcell hkind hcl hnd S W wk st hfO hc rfl fun D C' s₁ cs hD1 => ?_
 obtain ⟨S1, g1, hz, hDe, hC, hfD, hfC, oD, oC, bD, bC, st1, WC, ownC, ownF, hDfr⟩ := cs
 refine compLoopD_any (CID w B fr H s₁ (compEnvC scope cl C' env) (inner cl ρ) D C' fp St C Inv xs.length) ?_ (xs.length + 1) ⟨0, [], H, [], rfl, Nat.zero_le _, Nat.le_refl _, Gr.refl .., S1, WC, st1, hc, h0, newDictAt hD1, .nil, oD, oC⟩
 rintro k s2 ⟨i, ys, H2, es, rfl, hi, hyl, g2, S2, W2, st2, hc2, inv, pl, rs, oD2, oC2⟩
 have hDC: ¬ D = C' := by rw [hC]; exact Nat.ne_of_lt (Nat.lt_succ_self _)
 cases hx: xs[i]? with
 | none =>
  have hil: i = xs.length := Nat.le_antisymm hi (by simpa using hx)
  subst hil
  refine wk.done A fr H2 s2 _ _ a S2 hc2 (wk.noH S2 st2) hfB st2 fun s3 g3 S3 => ?_
  have kt := wk.tk S2 st2 g3
  have W3 := W2.gx g3 (fun b hb q => ownF b q hb) kt
  obtain ⟨m, hm, uu⟩ := W3.ns
  refine hRR D C' H2 s3 ys m hDe (hC ▸ Nat.le_succ_of_le hDe) hDC hm ⟨es,?_, peMove kt rs⟩ ((g1.up.trans g2).trans (g3.weaken fun c hc => .inr (.tail _ (.tail _ hc)))) S3 hc2 inv oD2 oC2
  exact dictMove pl (fun o e c => g3.ext.keep D _ e oD2 hfD c) kt
 | some x =>
  have hil: i < xs.length := (List.getElem?_eq_some_iff.mp hx).1
  refine wk.item i x A fr H2 s2 _ _ a S2 hc2 (wk.noH S2 st2) hfB st2 hx fun val s3 go => go _ _ fun s4 g4 S4 st4 r4 => ?_
  obtain ⟨ρ5, hasg, hsub, hbody⟩ := turn C' i x ys H2 hx hc2 inv
  have kt4 := wk.tk S2 st2 g4
  have W4 := W2.gx g4 (fun b hb q => ownF b q hb) kt4
  have pl4: s4.heap.DictOfH (tkd w) D es := dictMove pl (fun o e c => g4.ext.keep D _ e oD2 hfD c) kt4
  refine hasg A fr H2 s4 val _ _ a S4 W4 r4 fun s5 g5 S5 W5 => ?_
  have kt5 := S4.tupKeep g5.ext (fun a o ha => ownSeq W4 a o (.inl ha))
  have st5 := wk.own S4 st4 g5 kt5 (fun b hb q => hfC (by rw [← show b = C' from q]; exact hb)) hc2 hc2
  have pl5: s5.heap.DictOfH (tkd w) D es := dictMove pl4 (fun o e c => g5.ext.keep D _ e oD2 hDC c) kt5
  have g25: Gr (fun c => False ∨ c ∈ C' :: D :: fp) H s₁ H2 s5 := (g2.trans (g4.weaken fun c hc => .inr (.tail _ (.tail _ hc)))).trans (g5.weaken fun c hc => .inr (by rw [show c = C' from hc]; exact .head _))
  refine hbody A fr s5 _ _ a S5 W5 fun kv k H6 s6 g6 S6 r6 q6 => ?_
  have W6: Vars B (compEnvC scope cl C' env) ρ5 H6 s6.heap := W5.gr S5 g6
  refine q6 A fr s6 _ _ a S6 W6 fun v y H7 s7 g7 S7 r7 zz => ?_
  obtain ⟨m, c, ek, ev, hc7, inv7⟩ := zz
  subst ek; subst ev
  have g67 := g6.trans g7
  have kt7: TupKeep s5.heap s7.heap := S5.tupKeep g67.ext fun uu uu q => q.elim
  have oD7: H7.o D = none := by obtain ⟨o, uu, uu, e, uu⟩ := pl5; exact g67.ext.none' e oD2
  have oC7: H7.o C' = none := by obtain ⟨m, ⟨o, uu, uu, e, uu⟩, uu⟩ := W5.ns; exact g67.ext.none' e oC2
  have pl7: s7.heap.DictOfH (tkd w) D es := dictMove pl5 (fun o e c => g67.ext.keep D _ e oD2 id c) kt7
  have st7 := wk.own S5 st5 g67 kt7 (fun uu uu q => q) hc2 hc7
  have W7: Vars B (compEnvC scope cl C' env) ρ5 H7 s7.heap := W6.gr S6 g7
  have rs7 := peMove kt7 (peMove kt5 (peMove kt4 rs))
  have rk7: VR s7.heap kv (mv m) := VR.mono' (S6.tupKeep g7.ext fun uu uu q => q.elim) r6
  refine sized (dictSet_poly (c := c) a pl7 rs7 (by lia) rk7 (fun h8 t8 es8 sb8 pl8 f8 hz8 => ?_))
  have bD7: ∃ o, s7.heap.get? D = some o ∧ (o.cls = .type "list" ∨ o.cls = .type "dict") := by obtain ⟨o, uu, uu, e, hc, uu⟩ := pl7; exact ⟨o, e, .inr hc.1⟩
  obtain ⟨S8, g8, kt8⟩ := adoptStep (t := t8) S7 oD7 bD bD7 (by obtain ⟨o, uu, uu, e, uu, hd, uu⟩ := pl8; exact ⟨o, e, fun vs q => by rw [hd] at q; cases q⟩) sb8 hDfr
  have W8 := W7.gx g8 (fun b hb q => by rw [show b = D from q] at hb; exact (ownC D hb).elim (fun e => hDC e) (Nat.lt_irrefl _)) kt8
  refine ⟨xs.length + 1 - (i + 1), by lia, i + 1, pput ys m c, H7, es8, rfl, hil,?_, (g25.trans g67.up).trans (g8.weaken fun c hc => .inr (by rw [show c = D from hc]; exact .tail _ (.head _))), S8, W8.sub hsub (by intro x c hx; exact (hcl.get hx).2),?_, hc7, inv7, pl8, f8 kt8 r7, oD7, oC7⟩
  ·unfold pput; split
   ·rw [List.length_map]; exact Nat.le_succ_of_le ‹_›
   ·rw [List.length_append]; simp; assumption
  ·exact wk.own S7 st7 g8 kt8 (fun b hb q => hfD (by rw [← show b = D from q]; exact hb)) hc7 hc7
inductive CompD (w: World) (B: Heap) (env: Env) (d: Nat) (kx vx target: Expr) (scope: Scope) (cl: List (Str × Addr)) (ρ: Rho) (Q: PL → MH → Prop) (xs: List V) (C: MH → Prop) (H1: MH): Prop
 | mk (Inv: Nat → PL → MH → Prop) (hc: C H1) (h0: Inv 0 [] H1) (hlen: xs.length ≤ 1000000)
  (turn: ∀ L i x ys H', xs[i]? = some x → C H' → Inv i ys H' → TnD w B (compEnvC scope cl L env) d kx vx target cl ρ C (Inv (i + 1)) x ys H') (fin: ∀ ys H', C H' → Inv xs.length ys H' → Q ys H')
theorem eval_DictComp (kx vx gens scope pos): eval (.DictComp kx vx gens scope pos) env =
  comprehension (.DictComp kx vx gens scope pos) scope env (firstIterPos gens pos) newDict (firstAsync gens) (firstIter gens env) := rfl
theorem Ev.dictcomp {kx vx target iter: Expr} {scope: Scope} {pos: Pos} {cl: List (Str × Addr)} {Q: V → MH → Prop}
  (hclos: closureFor scope env = pure cl) (hcl: ClOk scope env cl) (hnd: (cl.map (·.1)).Nodup)
  (h: Its w B env d iter target ρ H (CompD w B env d kx vx target scope cl ρ fun ys H' => ∀ n, H'.o n = none → Q (.ref n) (H'.set n (.poly ys))))
  (hcell: ∀ y ∈ scope.names, y.2 ≠ .cell) (hkind: scope.kind = .function) (hnames: ∀ y ∈ scope.names, y.2 = .local → scope.names.lookup y.1 = some .local)
  (hs: ∀ x, foldedSetIterable iter env x = pure x := by intro uu; rfl): Ev w B env d (.DictComp kx vx [⟨target, iter, [], 0⟩] scope pos) ρ H Q := by
 intro A fr s E Q' a S W K
 rw [eval_DictComp]
 refine wpAny_comprehension_free (use := none) rfl hs hclos hkind hnames (h A fr s E _ a S W fun I xs C fp St H1 s1 wk st hf hn g1 S1 zz => ?_)
 obtain ⟨Inv, hc, h0, hlen, turn, fin⟩ := zz
 refine dcomp_core (RR := fun acc C => compPost (model prg w) A E none Q' acc C) Inv hcell hkind hcl hnd a S1 (W.gr S g1) wk st (fun b hb => S.bfresh (hf b hb)) (fun b hb q => absurd (W.own_lt b q) (Nat.not_lt.mpr (hf b hb))) hlen hc h0 turn ?_
 intro D C' H' s' ys m hD hC hDC hns hmr g S' hc' inv oD oC
 refine ⟨m, hns, fun h' sb => ?_⟩
 have hsz := g1.ext.size
 have bC: B.get? C' = none := S1.bfresh hC
 have bD: B.get? D = none := S1.bfresh hD
 have nfr: ∀ x, s1.heap.objs.size ≤ x → ∀ env ∈ fr, env.frame ≠ some x := fun x hx env he q => absurd (S1.frLt env he x q) (Nat.not_lt.mpr hx)
 obtain ⟨S2, g2, kt2⟩ := S'.free hns oC bC (nfr _ hC) sb
 have hmr2: MR w h' D (.poly ys) := hmr.fr (fun o e => (sb.2 D hDC).trans e) kt2
 refine K (.ref D) (.ref D) (H'.set D (.poly ys)) _ ?_ (S2.adopt bD (nfr _ hD) hmr2 (Nat.lt_of_lt_of_le S1.low.1 hD)) (.ref D) (fin ys H' hc' inv D oD)
 refine Gr.adopt ?_ (Nat.le_trans hsz hD)
 refine Gr.fresh (fp := C' :: D :: fp) g1 ((g.weaken fun c hc => hc).trans (g2.weaken fun c hc => .inr (by rw [show c = C' from hc]; exact .head _))) fun c hc => ?_
 rcases List.mem_cons.mp hc with rfl | hc
 ·exact Nat.le_trans hsz hC
 ·rcases List.mem_cons.mp hc with rfl | hc
  ·exact Nat.le_trans hsz hD
  ·exact hf c hc
end
end Mine.Internal
end
section
open PySem PySem.W PySem.Calls PyProof.Rows
namespace Mine.Internal
section
variable {w: World} {B: Heap} {env: Env} {d: Nat} {ρ: Rho} {H: MH} {fr: List Env}
noncomputable def rangeV (n: Nat): List V := (List.range n).map fun i => .int (i: Nat)
theorem rangeV_length (n: Nat): (rangeV n).length = n := by simp [rangeV]
theorem rangeV_get {n i: Nat} {x: V} (h: (rangeV n)[i]? = some x): i < n ∧ x = .int (i: Nat) := by
 have hi: i < n := by have := (List.getElem?_eq_some_iff.mp h).1; simpa [rangeV] using this
 refine ⟨hi,?_⟩
 simp [rangeV, hi] at h
 exact h.symm
theorem boot_range: bootBuiltins "range" = some (.type "range") := by boot_fast
theorem boot_enumerate': bootBuiltins "enumerate" = some (.type "enumerate") := by boot_fast
theorem iterFields {h: Heap} {I: Addr} {x l st: Int} (s: IsRangeIter h I x l st): ∀ o, h.get? I = some o → ∃ vs, o.data = .fields vs := fun o e => by obtain rfl := Option.some.inj (s.symm.trans e); exact ⟨_, rfl⟩
theorem wk_range {x: Str} {px: Pos} (I: Addr) (n: Nat): Wk w B d (.Name x px) I (rangeV n) (fun uu => True) [I] (fun i h => IsRangeIter h I i ((n: Int) - i) 1) := by
 refine ⟨⟨[], by simp, fun i h h' st uu k uu => k I (by simp) _ st⟩, fun i h st b hb => ?_, fun i x A fr H s E Q' a S hc hH hB st hx K => ?_, fun A fr H s E Q' a S hc hH hB st K => ?_, fun i A s Q E st q => wpAny_pyIter_rangeiter st q⟩
 ·simp at hb; subst hb
  exact ⟨_, _, st, by show Value.type "range_iterator" ≠ _; decide, rfl⟩
 ·obtain ⟨hi, rfl⟩ := rangeV_get hx
  refine sized (wpAny_pyNext_range_item st (by lia) fun h' st' sb hz => ?_)
  obtain ⟨S', g, kt⟩ := stepPriv (t := s.toks + 1) S hH hB (iterFields st) sb.extBut hz
  exact K _ _ fun E2 Q2 k2 => wpAny_of_eq letGo_name (k2 _ g S' (by rw [show ((i + 1: Nat): Int) = (i: Int) + 1 by lia, show (n: Int) - ((i: Int) + 1) = (n: Int) - i - 1 by lia]; exact st') (.int ..))
 ·rw [rangeV_length] at st
  refine sized (wpAny_pyNext_range_end a.handled st (by lia) fun h' sb hz => ?_)
  obtain ⟨S', g, kt⟩ := stepPriv (t := s.toks) S hH hB (iterFields st) sb hz
  exact K _ g S'
theorem Its.range1 {np pos: Pos} {e target: Expr} {Q: List V → (MH → Prop) → MH → Prop} {x: Str} {px: Pos} (D: Wd w B) (ht: target = .Name x px) (hf: nsIn (Internal.heapK w.params) mainGlobals "range" = some none)
  (h: Ev w B env d e ρ H fun v H1 => ∃ n: Nat, n ≤ 1000000 ∧ v = .int n ∧ Q (rangeV n) (fun uu => True) H1)
  (hx: env.kindOf "range" = some .globalImplicit := by rfl) (hp: noStar e = true := by rfl): Its w B env d (.Call (.Name "range" np) [e] [] pos) target ρ H Q := by
 subst ht
 intro A fr s E Q' a S W K
 refine wpAny_Call_ofName (builtin_raw D S.base W hf boot_range (by decide) hx (callWith_type1 (Evs.run (es := [e]) (Q := fun vs H1 => ∃ n: Nat, n ≤ 1000000 ∧ vs = [.int n] ∧ Q (rangeV n) (fun uu => True) H1) (by simp [hp]) ?_ a S W fun vals vs H1 s1 g1 S1 r ⟨n, hn, ev, q⟩ => ?_) (starEach_plain hp) rfl) (by decide))
 ·exact h.mono fun v H1 zz => by obtain ⟨n, hn, e, q⟩ := zz; exact ⟨n, hn, by rw [e], q⟩
 subst ev
 obtain ⟨uu, uu, rfl, r1, r⟩ := r.icons
 obtain rfl := r.inil; obtain ⟨t, rfl⟩ := r1.iint
 refine call_range_1 ?_
 have kp := Keep.push s1.heap { cls := .type "range", data := .fields #[.int 0 s1.toks, .int n t, .int 1 (s1.toks + 1)] }
 have S2 := S1.keep (t := s1.toks + 1 + 1) kp (by simp)
 refine wpAny_pyIter_range (IsRange.new ..) (small_one (by lia) (by lia) (by lia) (by lia)) ?_
 have kp2 := Keep.push (s1.heap.push { cls := .type "range", data := .fields #[.int 0 s1.toks, .int n t, .int 1 (s1.toks + 1)] }) { cls := .type "range_iterator", data := .fields #[rawInt 0, rawInt (Builtin.Range.rangeSize 0 n 1), rawInt 1] }
 have kp3 := Keep.trans kp kp2
 have hz := g1.ext.size
 refine K _ (rangeV n) (fun uu => True) _ _ H1 _ (wk_range _ n) ?_ ?_ ?_ ?_ ?_ q
 ·have e: Builtin.Range.rangeSize 0 n 1 = (n: Int) - ((0: Nat): Int) := by
   rw [rangeSize_one]; split <;> lia
  rw [← e]
  exact Heap.get?_push_size _ rfl
 ·intro b hb
  rw [List.mem_singleton] at hb; subst hb
  rw [Heap.size_push]; lia
 ·intro b hb
  rw [List.mem_singleton] at hb; subst hb
  exact S2.fresh
 ·exact g1.trans (Gr.keep (t := s1.toks + 1 + 1) kp3 (by simp; lia))
 ·exact S1.keep (t := s1.toks + 1 + 1) kp3 (by simp; lia)
noncomputable def enumV: Nat → List V → List V
 | _, [] => []
 | i, x :: r => .tup [.int i, x] :: enumV (i + 1) r
theorem enumV_length: ∀ (xs: List V) (a: Nat), (enumV a xs).length = xs.length
 | [], _ => rfl
 | _ :: r, a => congrArg (· + 1) (enumV_length r (a + 1))
theorem enumV_get: ∀ {xs: List V} {a i: Nat} {y: V}, (enumV a xs)[i]? = some y → ∃ x, xs[i]? = some x ∧ y = .tup [.int (a + i: Nat), x]
 | [], _, _, _, h => by simp [enumV] at h
 | x :: r, a, 0, y, h => by simp [enumV] at h; exact ⟨x, rfl, h.symm⟩
 | x :: r, a, i + 1, y, h => by
  simp [enumV] at h
  obtain ⟨z, h1, h2⟩ := enumV_get h
  exact ⟨z, by simpa using h1, by rw [h2]; congr 3; lia⟩
theorem nextOf_tuple_item {A: Around} {E: Value → Shared → Prop} {s: Shared} {it t: Addr} {i: Nat} {items} {x: Value} {Q: Value → Shared → Prop} (hit: s.heap.IsTupleIter it t i)
  (ht: s.heap.IsTuple t items) (hx: items[i]? = some x) (hQ: ∀ h', h'.IsTupleIter it t (i + 1) → Heap.SameBut it s.heap h' → Q x { s with heap := h' }) :
  wpAny (model prg w) A (Builtin.SmallTypes.nextOf (.ref it)) Q E s := by
 obtain ⟨o, ho, hc, hd⟩ := id hit
 obtain ⟨ol, hol, uu, nl, hdl⟩ := ht
 unfold Builtin.SmallTypes.nextOf
 refine wpAny_bind (wpAny_callSpecial?_slot (name := Str.ofString "__next__") hit.typeIs F.slot_tuple_iterator_next
  (wpAny_call_entry F.slot_tuple_iterator_next hit.typeIs F.entry_tuple_iterator_next ?_ (F.args_tuple_iterator_next_1 _)))
 show wpAny _ _ (field (.ref it) 0 >>= _) _ _ s
 refine wpAny_bind (wpAny_field ho hd (x := .ref t) rfl ?_)
 show wpAny _ _ (if (Value.ref t == Value.none) = true then _ else _) _ _ s
 rw [if_neg (show ¬ ((Value.ref t == Value.none) = true) from Bool.false_ne_true)]
 show wpAny _ _ (field (.ref it) 1 >>= _) _ _ s
 refine wpAny_bind (wpAny_field ho hd (x := .int i 0) rfl ?_)
 show wpAny _ _ (seqItems? (.ref t) >>= _) _ _ s
 refine wpAny_bind (wpAny_seqItems hol hdl ?_)
 simp only [Int.toNat_natCast, hx]
 refine wpAny_bind (wpAny_setField ho hd (by simp) (wpAny_pure ⟨x, rfl, wpAny_pure (hQ _ ?_ (Heap.SameBut.update ..))⟩))
 exact ⟨_, Heap.get?_update_self _ ho (Obj.isFreed_of_fields (Obj.data_mapFields hd _)), (Obj.cls_mapFields ..).trans hc, by
  rw [Obj.data_mapFields hd]; simp [rawInt]⟩
theorem nextOf_tuple_end {A: Around} {E: Value → Shared → Prop} {s: Shared} {it t: Addr} {i: Nat} {items} {Q: Value → Shared → Prop} (hh: A.handled = none) (hit: s.heap.IsTupleIter it t i)
  (ht: s.heap.IsTuple t items) (hx: items[i]? = none) (hE: ∀ h' e, Heap.ExtBut it s.heap h' → (∃ o, h'.get? e = some o ∧ o.cls = .type "StopIteration") → E (.ref e) { s with heap := h' }) :
  wpAny (model prg w) A (Builtin.SmallTypes.nextOf (.ref it)) Q E s := by
 obtain ⟨o, ho, hc, hd⟩ := id hit
 obtain ⟨ol, hol, uu, nl, hdl⟩ := ht
 unfold Builtin.SmallTypes.nextOf
 refine wpAny_bind (wpAny_callSpecial?_slot (name := Str.ofString "__next__") hit.typeIs F.slot_tuple_iterator_next
  (wpAny_call_entry F.slot_tuple_iterator_next hit.typeIs F.entry_tuple_iterator_next ?_ (F.args_tuple_iterator_next_1 _)))
 show wpAny _ _ (field (.ref it) 0 >>= _) _ _ s
 refine wpAny_bind (wpAny_field ho hd (x := .ref t) rfl ?_)
 show wpAny _ _ (if (Value.ref t == Value.none) = true then _ else _) _ _ s
 rw [if_neg (show ¬ ((Value.ref t == Value.none) = true) from Bool.false_ne_true)]
 show wpAny _ _ (field (.ref it) 1 >>= _) _ _ s
 refine wpAny_bind (wpAny_field ho hd (x := .int i 0) rfl ?_)
 show wpAny _ _ (seqItems? (.ref t) >>= _) _ _ s
 refine wpAny_bind (wpAny_seqItems hol hdl ?_)
 simp only [Int.toNat_natCast, hx]
 refine wpAny_bind (wpAny_rule (wpAny_bind (wpAny_setField ho hd (by simp) ?_)))
 show wpAny _ _ (newExc (.type "StopIteration") [] >>= _) _ _ _
 refine wpAny_bind ?_
 simp only [newExc, newTuple]
 refine wpAny_bind (wpAny_newObj_type ?_ (by size_fits))
 refine wpAny_bind (m := firstArgMember _ _) (wpAny_of_eq (a := Value.none) (by first | rfl | (simp only [firstArgMember]; rfl)) ?_)
 refine wpAny_newObj_type ?_ (by size_fits)
 unfold raiseNew
 dsimp only
 refine wpAny_bind (wpAny_handled ?_)
 first | rw [show A.in1.handled = none from hh] | rw [hh]
 refine wpAny_bind (wpAny_pure (wpAny_throw ?_))
 exact hE _ _ (((Heap.SameBut.update ..).extBut.push _).push _) ⟨_, Heap.get?_push_size _ rfl, rfl⟩
theorem draws_tuple {A: Around} (hh: A.handled = none) (it l: Addr) (hne: l ≠ it) (items: Array Value) :
  Draws prg w A it [it, l] items.size (fun i v => items[i]? = some v) (fun i h => h.IsTupleIter it l i ∧ h.IsTuple l items) where
 live := fun uu uu st => st.1.elim fun o r => ⟨o, r.1⟩
 frame := fun uu uu uu st hk => ⟨st.1.at fun o e => hk it (by simp) o e, st.2.at fun o e => hk l (by simp) o e⟩
 item := fun i s Q E hi st hQ => by
  refine nextOf_tuple_item st.1 st.2 (x := items[i]) (by simp [hi]) fun h' hit' hs' => ?_
  exact hQ _ h' s.toks (by simp [hi]) ⟨hit', st.2.extBut hs'.extBut hne⟩ hs'
 done := fun s Q E st hE => nextOf_tuple_end hh st.1 st.2 (by simp) hE
theorem pure_any {M: Model} {A: Around} {E: Value → Shared → Prop} {s: Shared} {b: Bool} {Q: Bool → Shared → Prop} (h: ∀ c, Q c s): wpAny M A (pure b) Q E s := wpAny_pure (h b)
open AutoSeq1 (wpAny_loadPart') in
theorem meets_enumerate_newT (l: Addr) (items: Array Value) (n: Nat) :
  Meets (Builtin.«enumerate.__new__» ⟨[.type "enumerate", .ref l], []⟩) (fun uu R s => s.heap.get? l = some { cls := .type "tuple", dict := none, data := .seq items n, slots := #[] } ∧
   R (.ok (.ret (.ref (s.heap.push { cls := .type "tuple_iterator", data := .fields #[.ref l, .int 0 0] }).objs.size)))
    { s with heap := (s.heap.push { cls := .type "tuple_iterator", data := .fields #[.ref l, .int 0 0] }).push { cls := .type "enumerate", data := .fields #[.none, .bool false, .ref s.heap.objs.size, rawInt 0, .none, .none] } }) :=
 .of_wp fun prog w A R s h => by
  obtain ⟨hp, g, d, tk, os⟩ := s; obtain ⟨hl, h⟩ := h
  have hsub := sub_enumerate
  have hL: Heap.IsTuple (Shared.heap ⟨hp, g, d, tk, os⟩) l items := ⟨_, hl, rfl, n, rfl⟩
  wp_walk using wpAny_loadPart' hl
  refine wpAny_stack_any fun st => pure_any fun c => ?_
  cases c
  ·wp_walk using wpAny_loadPart' hl, wpAny_pyIter_tuple hL
   exact ⟨_, rfl, h⟩
  ·wp_walk using wpAny_loadPart' hl, wpAny_pyIter_tuple hL
   exact ⟨_, rfl, h⟩
theorem call_enumerate_tuple {A: Around} {E: Value → Shared → Prop} {s: Shared} {l: Addr} {items: Array Value} {n: Nat} {Q: Value → Shared → Prop}
  (hl: s.heap.get? l = some { cls := .type "tuple", dict := none, data := .seq items n, slots := #[] })
  (h: ∀ h', IsEnum h' (s.heap.objs.size + 1) s.heap.objs.size 0 .none → h'.IsTupleIter s.heap.objs.size l 0 → h'.objs.size = s.heap.objs.size + 2 →
   (∀ b o, s.heap.get? b = some o → h'.get? b = some o) → Q (.ref (s.heap.objs.size + 1)) { s with heap := h' }) :
  wpAny (model prg w) A (call (.type "enumerate") [.ref l]) Q E s := by
 refine callType_new F.called_enumerate (by decide) (F.typeCall_enumerate_1 _) (F.newCall_enumerate_1 _) (fun obj => F.args_object_init_2 obj _) F.entry_enumerate_new
  (meets_enumerate_newT l items n) ⟨hl,?_⟩
 have hz: (s.heap.push { cls := .type "tuple_iterator", data := .fields #[.ref l, .int 0 0] }).objs.size = s.heap.objs.size + 1 := Heap.size_push ..
 show _ ∧ _
 rw [hz]
 have he: IsEnum ((s.heap.push { cls := .type "tuple_iterator", data := .fields #[.ref l, .int 0 0] }).push
   { cls := .type "enumerate", data := .fields #[.none, .bool false, .ref s.heap.objs.size, rawInt 0, .none, .none] }) (s.heap.objs.size + 1) s.heap.objs.size 0 .none := by
  have := Heap.get?_push_size (s.heap.push { cls := .type "tuple_iterator", data := .fields #[.ref l, .int 0 0] })
   (o := { cls := .type "enumerate", data := .fields #[.none, .bool false, .ref s.heap.objs.size, rawInt 0, .none, .none] }) rfl
  rw [hz] at this; exact this
 refine ⟨⟨_, he, rfl⟩, h _ he ⟨_, Heap.get?_push_of_some _ (Heap.get?_push_size _ rfl), rfl, rfl⟩ (by rw [Heap.size_push, hz]) fun b o x => Heap.get?_push_of_some _ (Heap.get?_push_of_some _ x)⟩
theorem wk_enum {elts: List Expr} {k: Nat} {pt: Pos} {e it: Addr} {xs: List V} {C: MH → Prop} {St: Nat → Heap → Prop} (hne: e ≠ it)
  (hdp: ∃ dp: List Addr, (∀ H H', C H → C H' → ∀ b ∈ dp, H.o b ≠ none ∧ H'.ver b = H.ver b) ∧ ∀ i h h', St i h → TupKeep h h' → (∀ o, h.get? it = some o → h'.get? it = some o) → (∀ b ∈ dp, ∀ o, h.get? b = some o → h'.get? b = some o) → St i h')
  (hp: ∀ i h, St i h → ∃ o vs, h.get? it = some o ∧ o.cls ≠ .type "frame" ∧ o.data = .fields vs)
  (hD: ∀ (i: Nat) (H: MH) (fr: List Env) (s: Shared) (A: Around), A.handled = none → HS w B fr H s → C H → H.o it = none → St i s.heap → ∃ (l: Addr) (vals: List Value) (St': Nat → Heap → Prop), l ≠ it ∧ l ≠ e ∧ vals.length = xs.length ∧ VRs s.heap vals xs ∧
   Draws prg w A.in1 it [it, l] vals.length (fun i v => vals[i]? = some v) St' ∧ (∀ i', St i' s.heap → St' i' s.heap) ∧
   (∀ h', St' (i + 1) h' → (TupKeep s.heap h') → St (i + 1) h')) :
  Wk w B d (.Tuple elts k pt) e (enumV 0 xs) C [e, it] (fun i h => (∃ old, IsEnum h e it i old) ∧ St i h) := by
 obtain ⟨dp, hw, hst⟩ := hdp
 have prv: ∀ i h, ((∃ old, IsEnum h e it ((i: Nat): Int) old) ∧ St i h) → ∀ b ∈ [e, it], ∃ o vs, h.get? b = some o ∧ o.cls ≠ .type "frame" ∧ o.data = .fields vs := by
  rintro i h ⟨⟨old, he⟩, st⟩ b hb
  rcases List.mem_cons.mp hb with rfl | hb
  ·exact ⟨_, _, he, by show Value.type "enumerate" ≠ _; decide, rfl⟩
  ·rw [List.mem_singleton] at hb; subst hb; exact hp i h st
 refine ⟨⟨dp, hw, fun i h h' st kt k kd => ⟨let ⟨old, he⟩ := st.1; ⟨old, k e (by simp) _ he⟩, hst i h h' st.2 kt (fun o q => k it (by simp) o q) kd⟩⟩, prv, fun i x A fr H s E Q' a S hc hH hB st hx K => ?_, fun A fr H s E Q' a S hc hH hB st K => ?_, fun i A s Q E st q => ?_⟩
 ·obtain ⟨y, hy, rfl⟩ := enumV_get hx
  obtain ⟨⟨old, he⟩, st'⟩ := st
  obtain ⟨l, vals, St', h1, h2, h3, h4, DD, h5, h6⟩ := hD i H fr s A a.handled S hc (hH it (by simp)) st'
  have hi: i < vals.length := by rw [h3]; exact (List.getElem?_eq_some_iff.mp hy).1
  have helt: e < s.heap.objs.size := Heap.lt_size he
  refine sized (wpAny_pyNext_enum_itemD DD he (h5 i st') hi hne (by simp [hne, Ne.symm h2]) fun v h' tk hP ho st1 hT hsz hk hz => ?_)
  refine K _ _ fun E2 Q2 k2 => wpAny_letOwnedTupleGo_enum ho fun h'' he' sb => ?_
  have kb: ∀ b o, b ∉ [e, it] → s.heap.get? b = some o → h''.get? b = some o := fun b o nb q => by
   simp at nb
   exact (sb.2 b nb.1).trans (hk b o nb.1 nb.2 q)
  obtain ⟨S', g, kt⟩ := S.priv (t := tk + 1) (h' := h'') hH hB (fun b hb o q => by obtain ⟨o', vs, e', uu, hd⟩ := prv i _ ⟨⟨old, he⟩, st'⟩ b hb; obtain rfl := Option.some.inj (q.symm.trans e'); exact ⟨vs, hd⟩) kb (by rw [sb.1, hsz]; lia)
  obtain ⟨v', hv', rv'⟩ := h4.get hy
  obtain rfl := Option.some.inj (hv'.symm.trans hP)
  have st2: St' (i + 1) h'' := DD.frame _ _ _ st1 fun b hb o q => (sb.2 b (fun qq => by rcases List.mem_cons.mp hb with r | r; exact hne (qq ▸ r); rw [List.mem_singleton] at r; exact h2 (r ▸ qq))).trans q
  refine k2 _ g S' ⟨⟨_, by simpa using he'⟩, h6 _ st2 kt⟩ ?_
  refine .tup (n := 0) ((sb.2 _ (Nat.ne_of_gt helt)).trans hT) (.cons (by rw [show ((0 + i: Nat): Int) = (i: Int) by lia]; exact .int ..) (.cons (VR.mono' kt rv') .nil))
 ·rw [enumV_length] at st
  obtain ⟨⟨old, he⟩, st'⟩ := st
  obtain ⟨l, vals, St', h1, h2, h3, h4, DD, h5, h6⟩ := hD xs.length H fr s A a.handled S hc (hH it (by simp)) st'
  refine sized (wpAny_pyNext_enum_endD DD he (by rw [h3]; exact h5 _ st') fun h' ex hz => ?_)
  obtain ⟨S', g, kt⟩ := S.priv (t := s.toks) (h' := h') hH hB (fun b hb o q => by obtain ⟨o', vs, e', uu, hd⟩ := prv _ _ ⟨⟨old, he⟩, st'⟩ b hb; obtain rfl := Option.some.inj (q.symm.trans e'); exact ⟨vs, hd⟩) (fun b o nb q => ex b o (by simp at nb; exact nb.2) q) hz
  exact K _ g S'
 ·obtain ⟨⟨old, he⟩, uu⟩ := st
  exact wpAny_pyIter_enum he q
theorem mem_two {a b: Nat} (h: b ∈ [a + 1, a]): a ≤ b := by
 rcases List.mem_cons.mp h with rfl | h
 ·exact Nat.le_succ _
 ·rw [List.mem_singleton] at h; exact Nat.le_of_eq h.symm
theorem Its.enum {np pos: Pos} {e: Expr} {elts: List Expr} {k: Nat} {pt: Pos} {Q: List V → (MH → Prop) → MH → Prop} (D: Wd w B) (hf: nsIn (Internal.heapK w.params) mainGlobals "enumerate" = some none)
  (h: Ev w B env d e ρ H fun v H1 => (∃ l xs, v = .ref l ∧ H1.o l = some (.list xs) ∧ Q (enumV 0 xs) (fun H' => H'.o l = some (.list xs)) H1) ∨ (∃ xs, v = .tup xs ∧ Q (enumV 0 xs) (fun uu => True) H1))
  (hx: env.kindOf "enumerate" = some .globalImplicit := by rfl) (hp: noStar e = true := by rfl): Its w B env d (.Call (.Name "enumerate" np) [e] [] pos) (.Tuple elts k pt) ρ H Q := by
 intro A fr s E Q' a S W K
 refine wpAny_Call_ofName (builtin_raw D S.base W hf boot_enumerate' (by decide) hx (callWith_type1 (Evs.run (es := [e]) (Q := fun vs H1 => ∃ v, vs = [v] ∧ ((∃ l xs, v = .ref l ∧ H1.o l = some (.list xs) ∧ Q (enumV 0 xs) (fun H' => H'.o l = some (.list xs)) H1) ∨ (∃ xs, v = .tup xs ∧ Q (enumV 0 xs) (fun uu => True) H1))) (by simp [hp]) ?_ a S W fun vals vs H1 s1 g1 S1 r ⟨v, ev, q⟩ => ?_) (starEach_plain hp) rfl) (by decide))
 ·exact h.mono fun v H1 q => ⟨v, rfl, q⟩
 subst ev
 obtain ⟨uu, uu, rfl, r1, r⟩ := r.icons
 obtain rfl := r.inil
 have hz0 := g1.ext.size
 rcases q with ⟨l, xs, rfl, hl, q⟩ | ⟨xs, rfl, q⟩
 ·obtain rfl := r1.iref
  obtain ⟨vals, ⟨n, e⟩, rs⟩ := S1.rep l _ hl
  have hll: l < s1.heap.objs.size := Heap.lt_size e
  refine call_enumerate_list ⟨_, e, rfl, n, rfl⟩ fun h' he hit hsz kp => wpAny_pyIter_enum he ?_
  have kp': Keep s1.heap h' := kp
  have S2 := S1.keep (t := s1.toks) kp' (by rw [hsz]; lia)
  refine K _ (enumV 0 xs) _ [s1.heap.objs.size + 1, s1.heap.objs.size] (fun i h => (∃ old, IsEnum h (s1.heap.objs.size + 1) s1.heap.objs.size i old) ∧ h.IsListIter s1.heap.objs.size l i) H1 _ (wk_enum (Nat.succ_ne_self _) ?_ ?_ ?_) ⟨⟨_, he⟩, hit⟩ ?_ ?_ (g1.trans (Gr.keep (t := s1.toks) kp' (by rw [hsz]; lia))) S2 q
  ·exact ⟨[], by simp, fun i h h' st uu k uu => st.at fun o q => k o q⟩
  ·rintro i h ⟨o, q, c, dd⟩
   exact ⟨o, _, q, by rw [c]; decide, dd⟩
  ·intro i H' fr' s' A' hh S' hc hn st
   obtain ⟨vals', ⟨n', e'⟩, rs'⟩ := S'.rep l _ hc
   refine ⟨l, vals', (fun i h => h.IsListIter s1.heap.objs.size l i ∧ h.IsList l vals'.toArray), Nat.ne_of_lt hll, Nat.ne_of_lt (Nat.lt_succ_of_lt hll), rs'.length, rs',?_, fun i' st' => ⟨st', ⟨_, e', rfl, n', rfl⟩⟩, fun h'' st'' uu => st''.1⟩
   have := Draws.list (prog := prg) (w := w) (A := A'.in1) hh s1.heap.objs.size l (Nat.ne_of_lt hll) vals'.toArray
   simpa using this
  ·exact fun b hb => Nat.le_trans hz0 (mem_two hb)
  ·intro b hb
   have hb': s1.heap.objs.size ≤ b := mem_two hb
   cases q: H1.o b with
   | none => rfl
   | some mo => exact absurd (S1.lt b (by rw [q]; simp)) (Nat.not_lt.mpr hb')
 ·obtain ⟨l, vals, n, rfl, e, rs⟩ := r1.itup
  have hll: l < s1.heap.objs.size := Heap.lt_size e
  refine call_enumerate_tuple e fun h' he hit hsz kp => wpAny_pyIter_enum he ?_
  have kp': Keep s1.heap h' := kp
  have S2 := S1.keep (t := s1.toks) kp' (by rw [hsz]; lia)
  refine K _ (enumV 0 xs) _ [s1.heap.objs.size + 1, s1.heap.objs.size] (fun i h => (∃ old, IsEnum h (s1.heap.objs.size + 1) s1.heap.objs.size i old) ∧ (h.IsTupleIter s1.heap.objs.size l i ∧ h.get? l = some { cls := .type "tuple", data := .seq vals.toArray n } ∧ VRs h vals xs)) H1 _ (wk_enum (Nat.succ_ne_self _) ?_ ?_ ?_) ⟨⟨_, he⟩, hit, kp' _ _ e, VRs.mono' (Keep.tup kp') rs⟩ ?_ ?_ (g1.trans (Gr.keep (t := s1.toks) kp' (by rw [hsz]; lia))) S2 q
  ·exact ⟨[], by simp, fun i h h' st kt k uu => ⟨st.1.at fun o q => k o q, kt _ _ st.2.1 rfl ⟨_, _, rfl⟩, VRs.mono' kt st.2.2⟩⟩
  ·rintro i h ⟨⟨o, q, c, dd⟩, uu⟩
   exact ⟨o, _, q, by rw [c]; decide, dd⟩
  ·intro i H' fr' s' A' hh S' hc hn st
   refine ⟨l, vals, (fun i h => h.IsTupleIter s1.heap.objs.size l i ∧ h.IsTuple l vals.toArray), Nat.ne_of_lt hll, Nat.ne_of_lt (Nat.lt_succ_of_lt hll), rs.length, st.2.2,?_, fun i' st' => ⟨st'.1, ⟨_, st'.2.1, rfl, n, rfl⟩⟩, fun h'' st'' kt => ⟨st''.1, kt _ _ st.2.1 rfl ⟨_, _, rfl⟩, VRs.mono' kt st.2.2⟩⟩
   have := draws_tuple (w := w) (A := A'.in1) hh s1.heap.objs.size l (Nat.ne_of_lt hll) vals.toArray
   simpa using this
  ·exact fun b hb => Nat.le_trans hz0 (mem_two hb)
  ·intro b hb
   have hb': s1.heap.objs.size ≤ b := mem_two hb
   cases q: H1.o b with
   | none => rfl
   | some mo => exact absurd (S1.lt b (by rw [q]; simp)) (Nat.not_lt.mpr hb')
end
end Mine.Internal
end
section
open PySem PySem.W PySem.Calls PyProof.Rows
namespace Mine.Internal
open PySem.SeqAt
noncomputable def polyEq (p q: PL): Bool := p.length == q.length && p.all fun e => pget q e.1 == some e.2
mutual
inductive EqA (H: MH): Nat → V → V → Bool → Prop
 | int (n: Nat) (i j: Int): EqA H n (.int i) (.int j) (i == j)
 | str (n: Nat) (i j: Str): EqA H n (.str i) (.str j) (i == j)
 | bool (n: Nat) (i j: Bool): EqA H n (.bool i) (.bool j) (i == j)
 | tup {n: Nat} {xs ys: List V} {b: Bool}: EqAs H n xs ys b → EqA H (n + 1) (.tup xs) (.tup ys) b
 | poly {n: Nat} {a b: Addr} {p q: PL}: H.o a = some (.poly p) → H.o b = some (.poly q) → EqA H (n + 2) (.ref a) (.ref b) (polyEq p q)
 | list {n: Nat} {a b: Addr} {xs ys: List V} {r: Bool}: H.o a = some (.list xs) → H.o b = some (.list ys) → EqAs H n xs ys r → EqA H (n + 1) (.ref a) (.ref b) r
inductive EqAs (H: MH): Nat → List V → List V → Bool → Prop
 | nil (n: Nat): EqAs H n [] [] true
 | nil_cons {n: Nat} {y: V} {ys: List V}: EqAs H n [] (y :: ys) false
 | cons_nil {n: Nat} {x: V} {xs: List V}: EqAs H n (x :: xs) [] false
 | cons {n: Nat} {x y: V} {xs ys: List V} {b c: Bool}: EqA H n x y b → EqAs H n xs ys c → EqAs H n (x :: xs) (y :: ys) (b && c)
end
theorem pget_self {p: PL} (hn: (p.map (·.1)).Nodup): ∀ e ∈ p, pget p e.1 = some e.2 := by
 induction p with
 | nil => exact fun e he => nomatch he
 | cons x p ih =>
  intro e he
  rw [List.map_cons, List.nodup_cons] at hn
  rcases List.mem_cons.mp he with rfl | he
  ·simp [pget]
  ·have: ¬ x.1 = e.1 := fun q => hn.1 (q ▸ List.mem_map_of_mem he)
   have ih := ih hn.2 e he
   simpa [pget, this] using ih
theorem polyEq_self {p: PL} (hn: (p.map (·.1)).Nodup): polyEq p p = true := by
 simp only [polyEq, beq_self_eq_true, Bool.true_and, List.all_eq_true]
 intro e he
 rw [pget_self hn e he]; simp
theorem all2_mem {h: Heap} {m: Mon} {xs: List (List Int × Addr × Value)} {p: PL} (r: All2 (PE h) xs p): m ∈ p.map (·.1) → mk m ∈ xs.map (·.1) := by
 induction r with
 | nil => intro h; cases h
 | cons hy uu ih =>
  intro h
  rw [List.map_cons, List.mem_cons] at h ⊢
  rcases h with h | h
  ·exact .inl (by rw [hy.1, h])
  ·exact .inr (ih h)
theorem all2_nodup {h: Heap} {xs: List (List Int × Addr × Value)} {p: PL} (r: All2 (PE h) xs p): (xs.map (·.1)).Nodup → (p.map (·.1)).Nodup := by
 induction r with
 | nil => exact fun uu => .nil
 | cons hx r ih =>
  intro hn
  rw [List.map_cons, List.nodup_cons] at hn
  rw [List.map_cons, List.nodup_cons]
  refine ⟨fun hm => hn.1 ?_, ih hn.2⟩
  rw [hx.1]; exact all2_mem r hm
section
variable {w: World} {B: Heap} {fr: List Env} {H: MH} {s: Shared}
theorem HS.nodup (S: HS w B fr H s) {a: Addr} {p: PL} (e: H.o a = some (.poly p)): (p.map (·.1)).Nodup := by
 obtain ⟨xs, dd, r⟩ := S.poly e
 obtain ⟨uu, uu, uu, uu, uu, uu, uu, uu, hn⟩ := dcases dd
 exact all2_nodup r hn
theorem EqA.elim {H: MH} {P: Nat → V → V → Bool → Prop} {R: Nat → List V → List V → Bool → Prop}
  (hint: ∀ n i j, P n (.int i) (.int j) (i == j)) (hstr: ∀ n i j, P n (.str i) (.str j) (i == j)) (hbool: ∀ n i j, P n (.bool i) (.bool j) (i == j))
  (htup: ∀ {n xs ys b}, EqAs H n xs ys b → R n xs ys b → P (n + 1) (.tup xs) (.tup ys) b)
  (hpoly: ∀ {n a b p q}, H.o a = some (.poly p) → H.o b = some (.poly q) → P (n + 2) (.ref a) (.ref b) (polyEq p q))
  (hlist: ∀ {n a b xs ys r}, H.o a = some (.list xs) → H.o b = some (.list ys) → EqAs H n xs ys r → R n xs ys r → P (n + 1) (.ref a) (.ref b) r)
  (hnil: ∀ n, R n [] [] true) (hnc: ∀ {n y ys}, R n [] (y :: ys) false) (hcn: ∀ {n x xs}, R n (x :: xs) [] false)
  (hcons: ∀ {n x y xs ys b c}, EqA H n x y b → P n x y b → R n xs ys c → R n (x :: xs) (y :: ys) (b && c)) :
  (∀ {n x y b}, EqA H n x y b → P n x y b) ∧ (∀ {n xs ys b}, EqAs H n xs ys b → R n xs ys b) :=
 ⟨fun h => EqA.rec (motive_1 := fun n x y b uu => P n x y b) (motive_2 := fun n xs ys b uu => R n xs ys b) hint hstr hbool (fun h ih => htup h ih) (fun h1 h2 => hpoly h1 h2) (fun h1 h2 h ih => hlist h1 h2 h ih) hnil hnc hcn (fun h uu ih ihs => hcons h ih ihs) h,
  fun h => EqAs.rec (motive_1 := fun n x y b uu => P n x y b) (motive_2 := fun n xs ys b uu => R n xs ys b) hint hstr hbool (fun h ih => htup h ih) (fun h1 h2 => hpoly h1 h2) (fun h1 h2 h ih => hlist h1 h2 h ih) hnil hnc hcn (fun h uu ih ihs => hcons h ih ihs) h⟩
theorem EqA.nnone {n: Nat} {x y: V} {b: Bool} (h: EqA H n x y b) (e: x = .none): b = true := by cases h <;> cases e
theorem EqA.vint {n: Nat} {i: Int} {b: Bool} (h: EqA H n (.int i) (.int i) b): b = true := by cases h; simp
theorem EqA.vstr {n: Nat} {i: Str} {b: Bool} (h: EqA H n (.str i) (.str i) b): b = true := by cases h; simp
theorem EqA.vbool {n: Nat} {i: Bool} {b: Bool} (h: EqA H n (.bool i) (.bool i) b): b = true := by cases h; simp
theorem EqA.ones (S: HS w B fr H s): (∀ {n x y b}, EqA H n x y b → ∀ {a}, VR s.heap (.ref a) x → VR s.heap (.ref a) y → b = true) ∧ (∀ {n xs ys b}, EqAs H n xs ys b → ∀ {vs}, VRs s.heap vs xs → VRs s.heap vs ys → b = true) := by
 refine EqA.elim (P := fun uu x y b => ∀ {a}, VR s.heap (.ref a) x → VR s.heap (.ref a) y → b = true) (R := fun uu xs ys b => ∀ {vs}, VRs s.heap vs xs → VRs s.heap vs ys → b = true) (fun uu uu uu uu r uu => ?_) (fun uu uu uu uu r uu => ?_) (fun uu uu uu uu r uu => ?_) (fun uu ih uu r1 r2 => ?_) (fun h1 h2 uu r1 r2 => ?_) (fun h1 h2 uu ih uu r1 r2 => ?_)
  (fun uu uu uu uu => rfl) (fun r1 r2 => ?_) (fun r1 r2 => ?_) (fun {uu x uu uu uu uu uu} h ih ihs uu r1 r2 => ?_)
 ·obtain ⟨uu, e⟩ := r.iint; cases e
 ·obtain ⟨uu, e⟩ := r.istr; cases e
 ·have e := r.ibool; cases e
 ·obtain ⟨uu, uu, e1, q1⟩ := r1.irtup; obtain ⟨uu, uu, e2, q2⟩ := r2.irtup
  obtain rfl := tupInj (e1.symm.trans e2)
  exact ih q1 q2
 ·obtain rfl := r1.irref; obtain rfl := r2.irref
  obtain rfl := MO.poly.inj (Option.some.inj (h1.symm.trans h2))
  exact polyEq_self (S.nodup h1)
 ·obtain rfl := r1.irref; obtain rfl := r2.irref
  obtain rfl := MO.list.inj (Option.some.inj (h1.symm.trans h2))
  obtain ⟨uu, uu, r⟩ := S.rep _ _ h1
  exact ih r r
 ·obtain rfl := r1.inil; obtain ⟨uu, uu, e, uu, uu⟩ := r2.icons; cases e
 ·obtain rfl := r2.inil; obtain ⟨uu, uu, e, uu, uu⟩ := r1.icons; cases e
 ·obtain ⟨uu, uu, rfl, a1, s1⟩ := r1.icons
  obtain ⟨a2, s2⟩ := r2.iccons
  rw [ihs s1 s2, Bool.and_true]
  cases x with
  | none => exact h.nnone rfl
  | int => obtain ⟨uu, rfl⟩ := a1.iint; rw [a2.oint] at h; exact h.vint
  | str => obtain ⟨uu, rfl⟩ := a1.istr; rw [a2.ostr] at h; exact h.vstr
  | bool => obtain rfl := a1.ibool; rw [a2.obool] at h; exact h.vbool
  | tup => obtain ⟨uu, uu, uu, rfl, uu, uu⟩ := id a1.itup; exact ih a1 a2
  | ref => obtain rfl := a1.iref; exact ih a1 a2
theorem EqAs.one (S: HS w B fr H s) {n: Nat} {xs ys: List V} {b: Bool} {vs: List Value} (h: EqAs H n xs ys b) (r1: VRs s.heap vs xs) (r2: VRs s.heap vs ys): b = true := (EqA.ones S).2 h r1 r2
inductive HitsH (A: Around) (s: Shared) (kb: List (List Int × Addr × Value)): List (List Int × Addr × Value) → Bool → Prop
 | nil: HitsH A s kb [] true
 | miss {x: List Int × Addr × Value} {r: List (List Int × Addr × Value)}: atKey kb x.1 = none → HitsH A s kb (x :: r) false
 | hit {x: List Int × Addr × Value} {y: Addr × Value} {r: List (List Int × Addr × Value)} {e b: Bool}: atKey kb x.1 = some y → EqAt A s x.2.2 y.2 e → HitsH A s kb r b → HitsH A s kb (x :: r) (e && b)
set_option maxHeartbeats 1000000 in
theorem samePairsH {prog: Program} {w: World} {A: Around} {E: Value → Shared → Prop} {nm: String} {a b: Addr} {ka kb: List (List Int × Addr × Value)} {r: Bool} {Q: Bool → Shared → Prop} (hu: A.units < cLine) (ha: (a == sysModules) = false) (hb: (b == sysModules) = false)
  (da: s.heap.DictOfH (tupleKind (intKind prog w)) a ka) (db: s.heap.DictOfH (tupleKind (intKind prog w)) b kb) (hits: ka.length = kb.length → HitsH A s kb ka r) (h: Q (ka.length == kb.length && r) s) :
  wpAny (model prog w) A (Builtin.Dict.samePairs nm a b) Q E s := by
 obtain ⟨oa, es, ep, hoa, uu, hda, hea, hka, hna⟩ := dcases da
 obtain ⟨ob, es', ep', hob, uu, hdb, heb, hkb, hnb⟩ := dcases db
 have hla: ka.length = es.size := (size_of_entries hea).symm
 have hlb: kb.length = es'.size := (size_of_entries heb).symm
 rw [hla, hlb] at h
 unfold Builtin.Dict.samePairs Builtin.Dict.showsAll
 rw [if_neg (show ¬ (a == sysModules) = true by rw [ha]; exact Bool.false_ne_true), if_neg (show ¬ (b == sysModules) = true by rw [hb]; exact Bool.false_ne_true)]
 refine wpAny_bind (wpAny_pure (wpAny_bind (wpAny_pure (wpAny_bind (wpAny_dictEntries hoa hda ?_)))))
 dsimp only
 refine wpAny_bind (wpAny_dictEntries hob hdb ?_)
 by_cases hsz: es.size = es'.size
 case neg =>
  rw [if_pos (by simpa using hsz)]
  have hbf: (es.size == es'.size) = false := by simpa using hsz
  rw [hbf, Bool.false_and] at h
  exact wpAny_bind (wpAny_rule (wpAny_pure h))
 case pos =>
  have h': Q r s := by simpa [hsz] using h
  have hits' := hits (by rw [hla, hlb]; exact hsz)
  rw [if_neg (by rw [hsz]; simp)]
  refine wpAny_bind (wpAny_dictEpoch hoa hda (wpAny_bind ?_))
  rw [Std.Legacy.Range.forIn_eq_forIn_range']
  simp only [Std.Legacy.Range.size, Nat.sub_zero, Nat.add_sub_cancel, Nat.div_one]
  refine wpAny_forIn_list _ (fun rest q s' => s' = s ∧ q = (none, ()) ∧ ∃ i, rest = List.range' i (es.size - i) ∧ i ≤ es.size ∧ HitsH A s kb (ka.drop i) r) _ ?_ ?_ _ _ ⟨rfl, rfl, 0, by simp, Nat.zero_le _, hits'⟩
  ·rintro x rest q s' ⟨rfl, rfl, i, hr, hi, hpre⟩
   have hlt: i < es.size := by
    rcases Nat.lt_or_ge i es.size with h | h
    ·exact h
    ·rw [Nat.sub_eq_zero_of_le h] at hr; simp at hr
   obtain ⟨rfl, hrest⟩: x = i ∧ rest = List.range' (i + 1) (es.size - (i + 1)) := by
    have e: es.size - i = (es.size - (i + 1)) + 1 := by lia
    rw [e, List.range'_succ] at hr
    injection hr with h1 h2
    exact ⟨h1, h2⟩
   have hlt': x < ka.length := by rw [hla]; exact hlt
   have hx: es[x]? = some (entryOfKey (tupleKind (intKind prog w)) ka[x]) := by rw [entry_at hea x, List.getElem?_eq_getElem hlt']; rfl
   refine wpAny_bind (wpAny_dictEntries hoa hda ?_)
   rw [hx]
   have hdrop: ka.drop x = ka[x] :: ka.drop (x + 1) := List.drop_eq_getElem_cons hlt'
   rw [hdrop] at hpre
   show wpAny _ _ (holding [_, _] _ >>= _) _ _ _
   refine wpAny_bind (wpAny_holding (wpAny_bind (wpAny_dictFind_heap hu (hka _ (List.getElem_mem hlt')) hob hdb heb hkb hnb ?_ ?_)))
   ·intro hno
    have hn := atKey_none_of_get hno
    cases hpre with
    | miss uu =>
     refine wpAny_pure ?_
     show wpAny _ _ (if (!false) = true then _ else _) _ _ _
     rw [if_pos (by decide)]
     exact wpAny_pure (wpAny_pure h')
    | hit hy uu uu => exact nsF (hn.symm.trans hy)
   ·intro j p hj
    have hv' := atKey_of_get hnb hj
    refine wpAny_bind (wpAny_dictEntries hob hdb ?_)
    rw [entry_at heb j, hj]
    cases hpre with
    | miss hn => exact snF (hv'.symm.trans hn)
    | @hit uu y uu e b' hy he hrr =>
     obtain rfl := Option.some.inj (hv'.symm.trans hy)
     refine wpAny_holding (he prog w _ _ ?_)
     cases e with
     | false =>
      rw [Bool.false_and] at h'
      show wpAny _ _ (if (!false) = true then _ else _) _ _ _
      rw [if_pos (by decide)]
      exact wpAny_pure (wpAny_pure h')
     | true =>
      show wpAny _ _ (if (!true) = true then _ else _) _ _ _
      rw [if_neg (by decide)]
      refine wpAny_bind (wpAny_dictEpoch hoa hda ?_)
      rw [if_neg (by simp)]
      exact wpAny_pure ⟨rfl, rfl, x + 1, hrest, hlt, (Bool.true_and b').symm ▸ hrr⟩
  ·rintro q s' ⟨rfl, rfl, i, hr, hi, hpre⟩
   have hin: i = es.size := by
    rcases Nat.lt_or_ge i es.size with h | h
    ·have e: es.size - i = (es.size - (i + 1)) + 1 := by lia
     rw [e, List.range'_succ] at hr; exact nomatch hr
    ·exact Nat.le_antisymm hi h
   refine wpAny_pure ?_
   rw [hin, ← hla, List.drop_length] at hpre
   cases hpre
   exact h'
theorem rc_dict {prog: Program} {w: World} {A: Around} {op: CmpOp} {E: Value → Shared → Prop} {a b: Addr} {ka kb: List (List Int × Addr × Value)} {r: Bool} {Q: Value → Shared → Prop} (hop: op = .Eq ∨ op = .NotEq) (ha: (a == sysModules) = false) (hb: (b == sysModules) = false)
  (da: s.heap.DictOfH (tupleKind (intKind prog w)) a ka) (db: s.heap.DictOfH (tupleKind (intKind prog w)) b kb) (hu: A.units + 1 < cLine) (hits: ka.length = kb.length → HitsH A.in1 s kb ka r) (h: Q (.bool ((ka.length == kb.length && r) == (op == .Eq))) s) :
  wpAny (model prog w) A (richCompare op (.ref a) (.ref b)) Q E s := by
 have hu0: A.units < cLine := by lia
 have hu1: A.in1.units < cLine := by rw [Around.in1_units]; exact hu
 rcases hop with rfl | rfl
 ·refine wpAny_richCompare_same_room (op := .Eq) da.typeIs db.typeIs F.slot_dict_eq (wpAny_call_entry F.slot_dict_eq da.typeIs F.entry_dict_eq ?_ (F.args_dict_eq_2 _ _)) hu0
  show wpAny _ _ (Builtin.Dict.dictSlotArgs "__eq__" ⟨[.ref a, .ref b], []⟩ >>= _) _ _ s
  refine wpAny_bind ?_
  unfold Builtin.Dict.dictSlotArgs
  refine wpAny_bind (wpAny_notOrdered_dict da.typeIs (show wpAny _ _ (pure (Value.ref a, Value.ref b)) _ _ s from wpAny_pure ?_))
  refine wpAny_bind (wpAny_isInstance (T := "dict") db.typeIs F.sub_dict_dict ?_)
  simp only [Bool.not_true, Bool.false_eq_true, if_false]
  refine wpAny_bind (wpAny_pure (wpAny_bind (wpAny_pure (wpAny_bind (samePairsH hu1 ha hb da db hits (wpAny_pure ⟨_, rfl, (fun x => nomatch x),?_⟩))))))
  simpa using h
 ·refine wpAny_richCompare_same_room (op := .NotEq) da.typeIs db.typeIs F.slot_dict_ne (wpAny_call_entry F.slot_dict_ne da.typeIs F.entry_dict_ne ?_ (F.args_dict_ne_2 _ _)) hu0
  show wpAny _ _ (Builtin.Dict.dictSlotArgs "__ne__" ⟨[.ref a, .ref b], []⟩ >>= _) _ _ s
  refine wpAny_bind ?_
  unfold Builtin.Dict.dictSlotArgs
  refine wpAny_bind (wpAny_notOrdered_dict da.typeIs (show wpAny _ _ (pure (Value.ref a, Value.ref b)) _ _ s from wpAny_pure ?_))
  refine wpAny_bind (wpAny_isInstance (T := "dict") db.typeIs F.sub_dict_dict ?_)
  simp only [Bool.not_true, Bool.false_eq_true, if_false]
  refine wpAny_bind (wpAny_pure (wpAny_bind (wpAny_pure (wpAny_bind (samePairsH hu1 ha hb da db hits (wpAny_pure ⟨_, rfl, (fun x => nomatch x),?_⟩))))))
  rw [show (CmpOp.NotEq == CmpOp.Eq) = false by decide] at h
  exact h
end
end Mine.Internal
end
section
open PySem PySem.W PySem.Calls PyProof.Rows
namespace Mine.Internal
open PySem.SeqAt
theorem all_range_succ (n: Nat) (e: Nat → Bool): (List.range (n + 1)).all e = (e 0 && (List.range n).all fun j => e (j + 1)) := by
 rw [List.range_succ_eq_map, List.all_cons, List.all_map]; rfl
section
variable {w: World} {B: Heap} {fr: List Env} {H: MH} {s: Shared} {A: Around} {d: Nat}
noncomputable def Pts (A: Around) (s: Shared) (vs us: List Value) (b: Bool): Prop :=
 ∃ e: Nat → Bool, (∀ j (h1: j < vs.length) (h2: j < us.length), EqAt A s vs[j] us[j] (e j)) ∧ ((List.range (min vs.length us.length)).all e && vs.length == us.length) = b
theorem Pts.nil: Pts A s [] [] true := ⟨fun uu => true, by simp, by simp⟩
theorem Pts.nc {v: Value} {vs: List Value}: Pts A s [] (v :: vs) false := ⟨fun uu => true, by simp, by simp⟩
theorem Pts.cn {v: Value} {vs: List Value}: Pts A s (v :: vs) [] false := ⟨fun uu => true, by simp, by simp⟩
theorem Pts.cons {v u: Value} {vs us: List Value} {b c: Bool} (h: EqAt A s v u b) (r: Pts A s vs us c): Pts A s (v :: vs) (u :: us) (b && c) := by
 obtain ⟨e, he, hc⟩ := r
 refine ⟨fun j => match j with | 0 => b | j + 1 => e j, fun j h1 h2 => ?_,?_⟩
 ·cases j with
  | zero => exact h
  | succ j => exact he j (by simpa using h1) (by simpa using h2)
 ·simp only [List.length_cons]
  rw [show min (vs.length + 1) (us.length + 1) = min vs.length us.length + 1 by lia, all_range_succ, ← hc, Bool.and_assoc]
  congr 2
  by_cases q: vs.length = us.length <;> simp [q]
theorem EqAt.ints {i j: Int} {t u: Tok}: EqAt A s (.int i t) (.int j u) (i == j) := EqAt.int_int _ _ _ _
noncomputable def Bt (A: Around) (s: Shared) (v u: Value) (b: Bool): Prop := EqAt A s v u b ∧ RcAt A s v u b ∧ RcNeAt A s v u (!b)
theorem Bt.refs {a a': Addr} {b: Bool} (same: a = a' → b = true) (r: RcAt A s (.ref a) (.ref a') b) (k: RcNeAt A s (.ref a) (.ref a') (!b)): Bt A s (.ref a) (.ref a') b := by
 refine ⟨?_, r, k⟩
 by_cases q: a = a'
 ·subst q; rw [same rfl]; exact EqAt.same _
 ·exact EqAt.of_refs q r
theorem Bt.tuples {a a': Addr} {vals vals': List Value} {k k': Nat} {b: Bool} (e1: s.heap.get? a = some { cls := .type "tuple", data := .seq (List.toArray vals) k }) (e2: s.heap.get? a' = some { cls := .type "tuple", data := .seq (List.toArray vals') k' })
  (same: a = a' → b = true) (hu: A.units < cLine) (p: Pts A.in1 s vals vals' b): Bt A s (.ref a) (.ref a') b := by
 obtain ⟨e, he, hb⟩ := p
 have hi: ∀ j (h1: j < vals.toArray.size) (h2: j < vals'.toArray.size), EqAt A.in1 s vals.toArray[j] vals'.toArray[j] (e j) := fun j h1 h2 => he j h1 h2
 have e0: ((List.range (min vals.toArray.size vals'.toArray.size)).all e && vals.toArray.size == vals'.toArray.size) = b := hb
 have r := RcAt.tuples (A := A) (s := s) (e := e) ⟨_, e1, rfl, k, rfl⟩ ⟨_, e2, rfl, k', rfl⟩ hu hi
 have m := RcNeAt.tuples (A := A) (s := s) (e := e) ⟨_, e1, rfl, k, rfl⟩ ⟨_, e2, rfl, k', rfl⟩ hu hi
 rw [e0] at r m
 exact Bt.refs same r m
theorem Bt.lists {a a': Addr} {vals vals': List Value} {k k': Nat} {b: Bool} (e1: s.heap.get? a = some { cls := .type "list", data := .seq (List.toArray vals) k }) (e2: s.heap.get? a' = some { cls := .type "list", data := .seq (List.toArray vals') k' })
  (same: a = a' → b = true) (hu: A.units < cLine) (p: Pts A.in1 s vals vals' b): Bt A s (.ref a) (.ref a') b := by
 obtain ⟨e, he, hb⟩ := p
 by_cases hl: vals.length = vals'.length
 ·have hi: ∀ j (h1: j < vals.toArray.size) (h2: j < vals'.toArray.size), EqAt A.in1 s vals.toArray[j] vals'.toArray[j] (e j) := fun j h1 h2 => he j h1 h2
  have e0: ((List.range vals.toArray.size).all e) = b := by
   rw [← hl, Nat.min_self, beq_self_eq_true, Bool.and_true] at hb
   exact hb
  have r := RcAt.lists (A := A) (s := s) (e := e) ⟨_, e1, rfl, k, rfl⟩ ⟨_, e2, rfl, k', rfl⟩ hl hu hi
  have m := RcNeAt.lists (A := A) (s := s) (e := e) ⟨_, e1, rfl, k, rfl⟩ ⟨_, e2, rfl, k', rfl⟩ hl hu hi
  rw [e0] at r m
  exact Bt.refs same r m
 ·have e0: b = false := by
   rw [← hb, beq_false_of_ne hl, Bool.and_false]
  have hs: (vals.toArray.size != vals'.toArray.size) = true := bne_iff_ne.mpr hl
  subst e0
  exact Bt.refs same (RcAt.lists_lengths ⟨_, e1, rfl, k, rfl⟩ ⟨_, e2, rfl, k', rfl⟩ hs hu) (RcNeAt.lists_lengths ⟨_, e1, rfl, k, rfl⟩ ⟨_, e2, rfl, k', rfl⟩ hs hu)
theorem two_eq {h: Heap} {A: Around} {s: Shared} {v u: Value} {i j i' j': Int} (hu: A.units + 1 < cLine) (r1: VR s.heap v (.tup [.int i, .int j])) (r2: VR s.heap u (.tup [.int i', .int j'])): EqAt A s v u (i == i' && (j == j' && true)) := by
 obtain ⟨a, vals, k, rfl, e1, q1⟩ := r1.itup
 obtain ⟨a', vals', k', rfl, e2, q2⟩ := r2.itup
 have same: a = a' → (i == i' && (j == j' && true)) = true := by
  rintro rfl
  obtain rfl := tupInj (e1.symm.trans e2)
  obtain ⟨uu, uu, rfl, a1, q1⟩ := q1.icons
  obtain ⟨uu, uu, rfl, a2, q1⟩ := q1.icons
  obtain ⟨b1, q2⟩ := q2.iccons
  obtain ⟨b2, q2⟩ := q2.iccons
  obtain ⟨uu, rfl⟩ := a1.iint; obtain ⟨uu, rfl⟩ := a2.iint
  rw [V.int.inj b1.oint, V.int.inj b2.oint]; simp
 refine (Bt.tuples e1 e2 same (Nat.lt_of_succ_lt hu) ?_).1
 obtain ⟨uu, uu, rfl, a1, q1⟩ := q1.icons
 obtain ⟨uu, uu, rfl, a2, q1⟩ := q1.icons
 obtain ⟨uu, uu, rfl, b1, q2⟩ := q2.icons
 obtain ⟨uu, uu, rfl, b2, q2⟩ := q2.icons
 obtain rfl := q1.inil; obtain rfl := q2.inil; obtain ⟨uu, rfl⟩ := a1.iint
 obtain ⟨uu, rfl⟩ := b1.iint
 obtain ⟨uu, rfl⟩ := a2.iint
 obtain ⟨uu, rfl⟩ := b2.iint
 exact .cons (EqAt.int_int _ _ _ _) (.cons (EqAt.int_int _ _ _ _) .nil)
theorem items_any {p p': Program} {w w': World} {ks: List Int} {vs: List Value} (h: ItemsAre (intKind p w) ks vs): ItemsAre (intKind p' w') ks vs := by
 induction h with
 | nil => exact .nil
 | cons h uu ih => exact .cons h ih
theorem dict_any {p p': Program} {w w': World} {h: Heap} {a: Addr} {xs: List (List Int × Addr × Value)} (x: h.DictOfH (tupleKind (intKind p w)) a xs): h.DictOfH (tupleKind (intKind p' w')) a xs := by
 obtain ⟨o, es, ep, e, h1, h2, h3, h4, h5⟩ := dcases x
 refine ⟨o, es, ep, e, h1, h2, h3, fun y hy => ?_, h5⟩
 obtain ⟨o', items, n, e', hc, hd, hi⟩ := h4 y hy
 exact ⟨o', items, n, e', hc, hd, items_any hi⟩
theorem Bt.polys (S: HS w B fr H s) {a a': Addr} {p p': PL} (h1: H.o a = some (.poly p)) (h2: H.o a' = some (.poly p')) (hu: A.units + 2 < cLine): Bt A s (.ref a) (.ref a') (polyEq p p') := by
 obtain ⟨xs, da, ra⟩ := S.poly h1
 obtain ⟨ys, db, rb⟩ := S.poly h2
 have hits: ∀ {ka: List (List Int × Addr × Value)} {p: PL}, All2 (PE s.heap) ka p → HitsH A.in1 s ys ka (p.all fun e => pget p' e.1 == some e.2) := by
  intro ka p r
  induction r with
  | nil => exact .nil
  | @cons x e ka p hx r ih =>
   rw [List.all_cons]
   rcases all2_get (m := e.1) rb with ⟨g1, g2⟩ | ⟨y, c, g1, g2, hv⟩
   ·rw [g2]
    exact .miss (by rw [hx.1]; exact g1)
   ·rw [g2]
    refine .hit (y := y) (by rw [hx.1]; exact g1) ?_ ih
    have := two_eq (A := A.in1) (h := s.heap) (by rw [Around.in1_units]; exact hu) hx.2.1 hv
    rw [show (some c == some e.2) = (e.2.1 == c.1 && (e.2.2 == c.2 && true)) by
     obtain ⟨c1, c2⟩ := c
     obtain ⟨m, d1, d2⟩ := e
     rw [Bool.eq_iff_iff]; simp; constructor <;> (rintro ⟨rfl, rfl⟩; exact ⟨rfl, rfl⟩)]
    exact this
 have e0: ∀ x: Bool, (x == (CmpOp.NotEq == CmpOp.Eq)) = !x := by decide
 have e1: ∀ x: Bool, (x == (CmpOp.Eq == CmpOp.Eq)) = x := by decide
 refine Bt.refs (fun q => ?_) (fun prog w' E Q hq => ?_) (fun prog w' E Q hq => ?_)
 ·subst q
  obtain rfl := MO.poly.inj (Option.some.inj (h1.symm.trans h2))
  exact polyEq_self (S.nodup h1)
 ·refine rc_dict (op := .Eq) (r := p.all fun e => pget p' e.1 == some e.2) (.inl rfl) (S.nsys h1) (S.nsys h2) (dict_any da) (dict_any db) (Nat.lt_of_succ_lt hu) (fun uu => hits ra) ?_
  rw [ra.length, rb.length, e1]
  exact hq
 ·refine rc_dict (op := .NotEq) (r := p.all fun e => pget p' e.1 == some e.2) (.inr rfl) (S.nsys h1) (S.nsys h2) (dict_any da) (dict_any db) (Nat.lt_of_succ_lt hu) (fun uu => hits ra) ?_
  rw [ra.length, rb.length, e0]
  exact hq
theorem EqA.all (S: HS w B fr H s): (∀ {n x y b}, EqA H n x y b → ∀ {A v u}, A.units + n < cLine → VR s.heap v x → VR s.heap u y → Bt A s v u b) ∧ (∀ {n xs ys b}, EqAs H n xs ys b → ∀ {A vs us}, A.units + n < cLine → VRs s.heap vs xs → VRs s.heap us ys → Pts A s vs us b) := by
 refine EqA.elim (P := fun n x y b => ∀ {A v u}, A.units + n < cLine → VR s.heap v x → VR s.heap u y → Bt A s v u b) (R := fun n xs ys b => ∀ {A vs us}, A.units + n < cLine → VRs s.heap vs xs → VRs s.heap us ys → Pts A s vs us b)
  (fun uu uu uu uu uu uu uu r1 r2 => ?_) (fun uu uu uu uu uu uu uu r1 r2 => ?_) (fun uu uu uu uu uu uu uu r1 r2 => ?_) (fun {n uu uu uu} h ih A uu uu hu r1 r2 => ?_) (fun {n uu uu uu uu} h1 h2 uu uu uu hu r1 r2 => ?_) (fun {n uu uu uu uu uu} h1 h2 h ih A uu uu hu r1 r2 => ?_)
  (fun uu uu uu uu uu r1 r2 => ?_) (fun uu r1 r2 => ?_) (fun uu r1 r2 => ?_) (fun uu ih ihs uu uu uu hu r1 r2 => ?_)
 ·obtain ⟨uu, rfl⟩ := r1.iint; obtain ⟨uu, rfl⟩ := r2.iint; exact ⟨EqAt.int_int _ _ _ _, RcAt.int_int _ _ _ _, RcNeAt.int_int _ _ _ _⟩
 ·obtain ⟨uu, rfl⟩ := r1.istr; obtain ⟨uu, rfl⟩ := r2.istr; exact ⟨EqAt.str_str _ _ _ _, RcAt.str_str _ _ _ _, RcNeAt.str_str _ _ _ _⟩
 ·obtain rfl := r1.ibool; obtain rfl := r2.ibool; exact ⟨EqAt.bool_bool _ _, RcAt.bool_bool _ _, RcNeAt.bool_bool _ _⟩
 ·obtain ⟨uu, uu, uu, rfl, e1, q1⟩ := r1.itup
  obtain ⟨uu, uu, uu, rfl, e2, q2⟩ := r2.itup
  exact Bt.tuples e1 e2 (fun q => by subst q; obtain rfl := tupInj (e1.symm.trans e2); exact EqAs.one S h q1 q2) (by lia) (ih (A := A.in1) (by rw [Around.in1_units]; lia) q1 q2)
 ·obtain rfl := r1.iref; obtain rfl := r2.iref
  exact Bt.polys S h1 h2 (by lia)
 ·obtain rfl := r1.iref; obtain rfl := r2.iref
  obtain ⟨uu, ⟨k, e1⟩, q1⟩ := S.rep _ _ h1
  obtain ⟨uu, ⟨k', e2⟩, q2⟩ := S.rep _ _ h2
  refine Bt.lists e1 e2 (fun q => ?_) (by lia) (ih (A := A.in1) (by rw [Around.in1_units]; lia) q1 q2)
  subst q
  obtain rfl := MO.list.inj (Option.some.inj (h1.symm.trans h2))
  exact EqAs.one S h q1 q1
 ·obtain rfl := r1.inil; obtain rfl := r2.inil; exact .nil
 ·obtain rfl := r1.inil; obtain ⟨uu, uu, rfl, uu, uu⟩ := r2.icons; exact .nc
 ·obtain ⟨uu, uu, rfl, uu, uu⟩ := r1.icons; obtain rfl := r2.inil; exact .cn
 ·obtain ⟨uu, uu, rfl, a1, s1⟩ := r1.icons
  obtain ⟨uu, uu, rfl, a2, s2⟩ := r2.icons
  exact Pts.cons (ih hu a1 a2).1 (ihs hu s1 s2)
theorem EqA.sound (S: HS w B fr H s) {n: Nat} {x y: V} {b: Bool} {A: Around} {v u: Value} (h: EqA H n x y b) (hu: A.units + n < cLine) (r1: VR s.heap v x) (r2: VR s.heap u y): EqAt A s v u b := ((EqA.all S).1 h hu r1 r2).1
theorem EqAs.sound (S: HS w B fr H s) {n: Nat} {xs ys: List V} {b: Bool} {A: Around} {vs us: List Value} (h: EqAs H n xs ys b) (hu: A.units + n < cLine) (r1: VRs s.heap vs xs) (r2: VRs s.heap us ys): Pts A s vs us b := (EqA.all S).2 h hu r1 r2
end
end Mine.Internal
end
section
open PySem PySem.W PySem.Calls PyProof.Rows
namespace Mine.Internal
open PySem.SeqAt
section
variable {w: World} {B: Heap} {fr: List Env} {H: MH} {d: Nat} {Q: V → MH → Prop}
theorem EqA.rc {s: Shared} {A: Around} (S: HS w B fr H s) {n: Nat} {x y: V} {b: Bool} {v u: Value} (h: EqA H n x y b) (hu: A.units + n < cLine) (r1: VR s.heap v x) (r2: VR s.heap u y) :
  (∀ (E Q: Value → Shared → Prop), Q (.bool b) s → wpAny (model prg w) A (richCompare .Eq v u) Q E s) ∧ (∀ (E Q: Value → Shared → Prop), Q (.bool (!b)) s → wpAny (model prg w) A (richCompare .NotEq v u) Q E s) := by
 exact ⟨((EqA.all S).1 h hu r1 r2).2.1 prg w, ((EqA.all S).1 h hu r1 r2).2.2 prg w⟩
theorem AOk.roomN {A: Around} {n: Nat} (a: AOk d fr A) (hn: n ≤ 100): A.units + n < cLine := by have := a.units; simp only [cLine]; lia
theorem Cmp.eq {n: Nat} {x y: V} {b: Bool} (e: EqA H n x y b) (h: Q (.bool b) H) (hn: n ≤ 100 := by decide): Cmp w B d .Eq x y H Q :=
 fun s va vb ra rb A fr E Q' a S K => (e.rc S (a.roomN hn) ra rb).1 E _ (K _ _ _ _ (Gr.refl ..) S (.bool b) h)
theorem Cmp.ne {n: Nat} {x y: V} {b: Bool} (e: EqA H n x y b) (h: Q (.bool (!b)) H) (hn: n ≤ 100 := by decide): Cmp w B d .NotEq x y H Q :=
 fun s va vb ra rb A fr E Q' a S K => (e.rc S (a.roomN hn) ra rb).2 E _ (K _ _ _ _ (Gr.refl ..) S (.bool _) h)
theorem none_ne {h: Heap} {v: Value} {x: V} (r: VR h v x) (hx: x ≠ .none): v ≠ .none := by
 rintro rfl; cases r; exact hx rfl
theorem Cmp.is_none (h: Q (.bool true) H): Cmp w B d .Is .none .none H Q := fun s va vb ra rb A fr E Q' a S K => by
 obtain rfl := ra.inone; obtain rfl := rb.inone; exact wpAny_is_self rfl (K _ _ _ _ (Gr.refl ..) S (.bool _) h)
theorem Cmp.is_none_ne {x: V} (hx: x ≠ .none) (h: Q (.bool false) H): Cmp w B d .Is x .none H Q := fun s va vb ra rb A fr E Q' a S K => by
 obtain rfl := rb.inone; exact PyProof.Rows.is_none_ne (none_ne ra hx) (K _ _ _ _ (Gr.refl ..) S (.bool _) h)
theorem Cmp.isnot_none (h: Q (.bool false) H): Cmp w B d .IsNot .none .none H Q := fun s va vb ra rb A fr E Q' a S K => by
 obtain rfl := ra.inone; obtain rfl := rb.inone; exact wpAny_isNot_self rfl (K _ _ _ _ (Gr.refl ..) S (.bool _) h)
theorem Cmp.isnot_none_ne {x: V} (hx: x ≠ .none) (h: Q (.bool true) H): Cmp w B d .IsNot x .none H Q := fun s va vb ra rb A fr E Q' a S K => by
 obtain rfl := rb.inone; exact PyProof.Rows.isnot_none_ne (none_ne ra hx) (K _ _ _ _ (Gr.refl ..) S (.bool _) h)
theorem mv_inj {h: Heap} {v: Value} {p q: Mon} (r1: VR h v (mv p)) (r2: VR h v (mv q)): p = q := by
 obtain ⟨p1, p2⟩ := p; obtain ⟨q1, q2⟩ := q
 obtain ⟨a, vals, k, rfl, e1, s1⟩ := r1.itup
 obtain ⟨vals', k', e2, s2⟩ := r2.irtup
 obtain rfl := tupInj (e1.symm.trans e2)
 obtain ⟨uu, uu, rfl, a1, q1⟩ := s1.icons
 obtain ⟨uu, uu, rfl, a2, q1⟩ := q1.icons
 obtain ⟨b1, q2⟩ := s2.iccons
 obtain ⟨b2, q2⟩ := q2.iccons
 obtain ⟨uu, rfl⟩ := a1.iint; obtain ⟨uu, rfl⟩ := a2.iint; exact congr (congrArg Prod.mk (V.int.inj b1.oint).symm) (V.int.inj b2.oint).symm
theorem Cmp.in_ints2 {i j k: Int} (h: Q (.bool (i == k || j == k)) H): Cmp w B d .In (.int k) (.tup [.int i, .int j]) H Q := fun s va vb ra rb A fr E Q' a S K => by
 obtain ⟨t, rfl⟩ := ra.iint
 obtain ⟨l, vals, n, rfl, e, q⟩ := rb.itup
 obtain ⟨uu, uu, rfl, a1, q⟩ := q.icons
 obtain ⟨uu, uu, rfl, a2, q⟩ := q.icons
 obtain rfl := q.inil; obtain ⟨t1, rfl⟩ := a1.iint
 obtain ⟨t2, rfl⟩ := a2.iint
 refine in_tupleAt (fun v => match v with | .int x _ => x == k | _ => false) ⟨_, e, rfl, n, rfl⟩ (fun y hy => ?_) (K _ _ _ _ (Gr.refl ..) S (.bool _) (by simpa using h))
 simp at hy
 rcases hy with rfl | rfl <;> exact EqAt.int_int _ _ _ _
open Classical in
theorem Cmp.notin_pairs {l: Addr} {ps: List Mon} {m: Mon} (hl: H.o l = some (.list (ps.map mv))) (h: Q (.bool (!(ps.contains m))) H): Cmp w B d .NotIn (mv m) (.ref l) H Q := fun s va vb ra rb A fr E Q' a S K => by
 obtain rfl := rb.iref
 obtain ⟨vals, ⟨n, e⟩, q⟩ := S.rep _ _ hl
 have key: ∀ {vals: List Value} {ps: List Mon}, VRs s.heap vals (ps.map mv) → (∀ y ∈ vals, EqAt A.in1 s y va (decide (VR s.heap y (mv m)))) ∧ (vals.any fun y => decide (VR s.heap y (mv m))) = ps.contains m := by
  intro vals ps
  induction ps generalizing vals with
  | nil => intro q; obtain rfl := VRs.inil q; exact ⟨by simp, by simp⟩
  | cons p ps ih =>
   intro q
   rw [List.map_cons] at q
   obtain ⟨v, vs, rfl, r1, r2⟩ := q.icons
   obtain ⟨i1, i2⟩ := ih r2
   have e0: decide (VR s.heap v (mv m)) = (p == m) := by
    by_cases q: p = m
    ·subst q; simp [r1]
    ·have: ¬ VR s.heap v (mv m) := fun r => q (mv_inj r1 r)
     simp [this, q]
   refine ⟨fun y hy => ?_,?_⟩
   ·rcases List.mem_cons.mp hy with rfl | hy
    ·rw [e0]
     have := two_eq (A := A.in1) (h := s.heap) (s := s) (by rw [Around.in1_units]; have := a.units; simp only [cLine]; lia) r1 ra
     rw [show (p == m) = (p.1 == m.1 && (p.2 == m.2 && true)) by
      obtain ⟨p1, p2⟩ := p; obtain ⟨m1, m2⟩ := m
      rw [Bool.eq_iff_iff]; simp]
     exact this
    ·exact i1 y hy
   ·rw [List.any_cons, e0, i2, List.contains_cons]
    rw [show (p == m) = (m == p) by
     by_cases q: p = m
     ·subst q; rfl
     ·rw [beq_eq_false_iff_ne.mpr q, beq_eq_false_iff_ne.mpr (Ne.symm q)]]
 obtain ⟨k1, k2⟩ := key q
 refine notIn_listAt (fun y => decide (VR s.heap y (mv m))) ⟨_, e, rfl, n, rfl⟩ (fun y hy => k1 y (by simpa using hy)) (K _ _ _ _ (Gr.refl ..) S (.bool _) ?_)
 have: (vals.toArray.any fun y => decide (VR s.heap y (mv m))) = ps.contains m := by simpa using k2
 rw [this]; exact h
end
noncomputable def RoAt (A: Around) (s: Shared) (op: CmpOp) (x y: Value) (b: Bool): Prop :=
 ∀ (prog: Program) (w: World) (E: Value → Shared → Prop) (Q: Value → Shared → Prop), Q (.bool b) s → wpAny (model prog w) A (richCompare op x y) Q E s
inductive TO (A: Around) (s: Shared) (op: CmpOp): List Value → List Value → Bool → Prop
 | nil: TO A s op [] [] false
 | eq {x y: Value} {xs ys: List Value} {b: Bool}: EqAt A s x y true → TO A s op xs ys b → TO A s op (x :: xs) (y :: ys) b
 | ne {x y: Value} {xs ys: List Value} {b: Bool}: xs.length = ys.length → EqAt A s x y false → RoAt A s op x y b → TO A s op (x :: xs) (y :: ys) b
theorem TO.length {A: Around} {s: Shared} {op: CmpOp} {xs ys: List Value} {b: Bool} (h: TO A s op xs ys b): xs.length = ys.length := by
 induction h with
 | nil => rfl
 | eq uu uu ih => simp [ih]
 | ne h uu uu => simp [h]
set_option maxHeartbeats 2000000 in
open AutoSeq1 (wpAny_loadPart') in
theorem tuple_ltAt (l b: Addr) (items items2: List Value) (n n2: Nat) (dd dd2: Option Addr) (sl sl2: Array (Option Value)) (r: Bool) :
  Meets (Builtin.«tuple.__lt__» ⟨[.ref l, .ref b], []⟩)
   (fun A R s => s.heap.get? l = some { cls := .type "tuple", dict := dd, data := .seq items.toArray n, slots := sl } ∧ s.heap.get? b = some { cls := .type "tuple", dict := dd2, data := .seq items2.toArray n2, slots := sl2 } ∧
    TO A.in1 s .Lt items items2 r ∧ R (.ok (.ret (.bool r))) s) :=
 .of_wp fun prog w A R s h => by
  obtain ⟨hp, g, d, tk, os⟩ := s; obtain ⟨hl, hb, he, h⟩ := h
  have f2 := AutoSeq1.sub_tuple_tuple
  have hlen := he.length
  wp_walk using wpAny_loadPart' hl, wpAny_loadPart' hb, wpAny_forIn_list _ (fun rest b s' => b.1 = none ∧ s' = ⟨hp, g, d, tk, os⟩ ∧ ∃ xs ys, rest = xs.zip ys ∧ TO A.in1 ⟨hp, g, d, tk, os⟩ .Lt xs ys r) _
  case turn =>
   rintro ⟨y, x⟩ rest b s' ⟨hb', rfl, xs, ys, hz, hT⟩
   cases hT with
   | nil => simp at hz
   | @eq x' y' xs ys uu h1 h2 =>
    simp at hz
    obtain ⟨⟨rfl, rfl⟩, rfl⟩ := hz
    refine wpAny_bind (h1 prog w _ _ ?_)
    wp_walk
    exact ⟨rfl, rfl, xs, ys, rfl, h2⟩
   | @ne x' y' xs ys uu h0 h1 h2 =>
    simp at hz
    obtain ⟨⟨rfl, rfl⟩, rfl⟩ := hz
    refine wpAny_bind (h1 prog w _ _ ?_)
    show wpAny _ _ (if (!false) = true then _ else _) _ _ _
    rw [if_pos (by decide)]
    refine wpAny_bind (wpAny_rule (wpAny_bind (h2 prog w _ _ ?_)))
    wp_walk
    exact ⟨_, rfl, h⟩
  case fin =>
   rintro ⟨b1, b2⟩ s' ⟨hb', rfl, xs, ys, hz, hT⟩
   simp only at hb'
   subst hb'
   cases hT with
   | nil =>
    wp_walk
    exact ⟨_, rfl, by simpa [Builtin.Tuple.tupleCompareSizes, hlen] using h⟩
   | eq => simp at hz
   | ne => simp at hz
  case h =>
   exact ⟨rfl, rfl, items, items2, by simp, he⟩
set_option maxHeartbeats 2000000 in
open AutoSeq1 (wpAny_loadPart') in
theorem tuple_gtAt (l b: Addr) (items items2: List Value) (n n2: Nat) (dd dd2: Option Addr) (sl sl2: Array (Option Value)) (r: Bool) :
  Meets (Builtin.«tuple.__gt__» ⟨[.ref l, .ref b], []⟩)
   (fun A R s => s.heap.get? l = some { cls := .type "tuple", dict := dd, data := .seq items.toArray n, slots := sl } ∧ s.heap.get? b = some { cls := .type "tuple", dict := dd2, data := .seq items2.toArray n2, slots := sl2 } ∧
    TO A.in1 s .Gt items items2 r ∧ R (.ok (.ret (.bool r))) s) :=
 .of_wp fun prog w A R s h => by
  obtain ⟨hp, g, d, tk, os⟩ := s; obtain ⟨hl, hb, he, h⟩ := h
  have f2 := AutoSeq1.sub_tuple_tuple
  have hlen := he.length
  wp_walk using wpAny_loadPart' hl, wpAny_loadPart' hb, wpAny_forIn_list _ (fun rest b s' => b.1 = none ∧ s' = ⟨hp, g, d, tk, os⟩ ∧ ∃ xs ys, rest = xs.zip ys ∧ TO A.in1 ⟨hp, g, d, tk, os⟩ .Gt xs ys r) _
  case turn =>
   rintro ⟨y, x⟩ rest b s' ⟨hb', rfl, xs, ys, hz, hT⟩
   cases hT with
   | nil => simp at hz
   | @eq x' y' xs ys uu h1 h2 =>
    simp at hz
    obtain ⟨⟨rfl, rfl⟩, rfl⟩ := hz
    refine wpAny_bind (h1 prog w _ _ ?_)
    wp_walk
    exact ⟨rfl, rfl, xs, ys, rfl, h2⟩
   | @ne x' y' xs ys uu h0 h1 h2 =>
    simp at hz
    obtain ⟨⟨rfl, rfl⟩, rfl⟩ := hz
    refine wpAny_bind (h1 prog w _ _ ?_)
    show wpAny _ _ (if (!false) = true then _ else _) _ _ _
    rw [if_pos (by decide)]
    refine wpAny_bind (wpAny_rule (wpAny_bind (h2 prog w _ _ ?_)))
    wp_walk
    exact ⟨_, rfl, h⟩
  case fin =>
   rintro ⟨b1, b2⟩ s' ⟨hb', rfl, xs, ys, hz, hT⟩
   simp only at hb'
   subst hb'
   cases hT with
   | nil =>
    wp_walk
    exact ⟨_, rfl, by simpa [Builtin.Tuple.tupleCompareSizes, hlen] using h⟩
   | eq => simp at hz
   | ne => simp at hz
  case h =>
   exact ⟨rfl, rfl, items, items2, by simp, he⟩
section
variable {w: World} {B: Heap} {fr: List Env} {H: MH} {d: Nat} {Q: V → MH → Prop}
inductive OrdV (gt: Bool): Nat → V → V → Bool → Prop
 | int (n: Nat) (i j: Int): OrdV gt n (.int i) (.int j) (if gt then decide (j < i) else decide (i < j))
 | nil (n: Nat): OrdV gt (n + 1) (.tup []) (.tup []) false
 | eq {n: Nat} {x y: V} {xs ys: List V} {b: Bool}: (∀ H, EqA H n x y true) → OrdV gt (n + 1) (.tup xs) (.tup ys) b → OrdV gt (n + 1) (.tup (x :: xs)) (.tup (y :: ys)) b
 | ne {n: Nat} {x y: V} {xs ys: List V} {b: Bool}: xs.length = ys.length → (∀ H, EqA H n x y false) → OrdV gt n x y b → OrdV gt (n + 1) (.tup (x :: xs)) (.tup (y :: ys)) b
noncomputable abbrev opOf (gt: Bool): CmpOp := if gt then .Gt else .Lt
theorem OrdV.sound {s: Shared} (S: HS w B fr H s) {gt: Bool}: ∀ (n: Nat) {A: Around} {x y: V} {b: Bool}, OrdV gt n x y b → A.units + 2 * n < cLine →
  (∀ {v u: Value}, VR s.heap v x → VR s.heap u y → RoAt A s (opOf gt) v u b) ∧ (∀ m xs ys, n = m + 1 → x = .tup xs → y = .tup ys → ∀ vs us, VRs s.heap vs xs → VRs s.heap us ys → TO A.in1 s (opOf gt) vs us b) := by
 intro n
 induction n with
 | zero =>
  intro A x y b h hu
  cases h with
  | int uu i j =>
   refine ⟨fun r1 r2 => ?_, fun m xs ys hn => by lia⟩
   obtain ⟨uu, rfl⟩ := r1.iint; obtain ⟨uu, rfl⟩ := r2.iint
   cases gt with
   | false => exact fun prog w E Q hq => PyProof.Rows.lt_int hq
   | true => exact fun prog w E Q hq => PyProof.Rows.gt_int hq
 | succ n ih =>
  intro A x y b h
  have lists: ∀ {x y: V} {b: Bool}, OrdV gt (n + 1) x y b → A.units + 2 * (n + 1) < cLine → ∀ xs ys, x = .tup xs → y = .tup ys → ∀ vs us, VRs s.heap vs xs → VRs s.heap us ys → TO A.in1 s (opOf gt) vs us b := by
   intro x y b h hu
   generalize hm: n + 1 = m at h
   induction h with
   | int => intro xs ys e; cases e
   | nil => intro xs ys e1 e2 vs us r1 r2; obtain rfl := V.tup.inj e1; obtain rfl := V.tup.inj e2; obtain rfl := r1.inil; obtain rfl := r2.inil; exact .nil
   | eq he uu ih2 =>
    intro xs ys e1 e2 vs us r1 r2
    obtain rfl := V.tup.inj e1; obtain rfl := V.tup.inj e2
    obtain ⟨uu, uu, rfl, a1, r1⟩ := r1.icons
    obtain ⟨uu, uu, rfl, a2, r2⟩ := r2.icons
    cases hm
    exact .eq ((he H).sound S (by rw [Around.in1_units]; lia) a1 a2) (ih2 rfl _ _ rfl rfl _ _ r1 r2)
   | ne hl he ho uu =>
    intro xs ys e1 e2 vs us r1 r2
    obtain rfl := V.tup.inj e1; obtain rfl := V.tup.inj e2
    obtain ⟨uu, uu, rfl, a1, r1⟩ := r1.icons
    obtain ⟨uu, uu, rfl, a2, r2⟩ := r2.icons
    cases hm
    refine .ne (by rw [r1.length, r2.length]; exact hl) ((he H).sound S (by rw [Around.in1_units]; lia) a1 a2) ?_
    exact (ih (A := A.in1) ho (by rw [Around.in1_units]; lia)).1 a1 a2
  intro hu
  refine ⟨fun {v u} r1 r2 => ?_, fun m xs ys hn e1 e2 vs us s1 s2 => lists h hu xs ys e1 e2 vs us s1 s2⟩
  have tup: ∀ {xs ys: List V}, x = .tup xs → y = .tup ys → RoAt A s (opOf gt) v u b := by
   intro xs ys e1 e2 prog w' E Q hq
   subst e1; subst e2
   obtain ⟨a, vals, k, rfl, e1, q1⟩ := r1.itup
   obtain ⟨a', vals', k', rfl, e2, q2⟩ := r2.itup
   have T := lists h hu _ _ rfl rfl _ _ q1 q2
   cases gt with
   | false => exact richCompare_meets_room (op := .Lt) ⟨_, e1, rfl⟩ ⟨_, e2, rfl⟩ F.slot_tuple_lt F.entry_tuple_lt (F.args_tuple_lt_2 _ _) (tuple_ltAt a a' vals vals' k k' none none #[] #[] b) ⟨e1, e2, T, (fun x => nomatch x), hq⟩ (by lia)
   | true => exact richCompare_meets_room (op := .Gt) ⟨_, e1, rfl⟩ ⟨_, e2, rfl⟩ F.slot_tuple_gt F.entry_tuple_gt (F.args_tuple_gt_2 _ _) (tuple_gtAt a a' vals vals' k k' none none #[] #[] b) ⟨e1, e2, T, (fun x => nomatch x), hq⟩ (by lia)
  cases h with
  | int uu i j =>
   obtain ⟨uu, rfl⟩ := r1.iint; obtain ⟨uu, rfl⟩ := r2.iint
   cases gt with
   | false => exact fun prog w E Q hq => PyProof.Rows.lt_int hq
   | true => exact fun prog w E Q hq => PyProof.Rows.gt_int hq
  | nil => exact tup rfl rfl
  | eq => exact tup rfl rfl
  | ne => exact tup rfl rfl
theorem Cmp.lt_tup {n: Nat} {x y: V} {b: Bool} (o: OrdV false n x y b) (h: Q (.bool b) H) (hn: n ≤ 40 := by decide): Cmp w B d .Lt x y H Q := fun s va vb ra rb A fr E Q' a S K =>
 (OrdV.sound S n o (a.roomN (n := 2 * n) (by lia))).1 ra rb prg w E _ (K _ _ _ _ (Gr.refl ..) S (.bool b) h)
theorem Cmp.gt_tup {n: Nat} {x y: V} {b: Bool} (o: OrdV true n x y b) (h: Q (.bool b) H) (hn: n ≤ 40 := by decide): Cmp w B d .Gt x y H Q := fun s va vb ra rb A fr E Q' a S K =>
 (OrdV.sound S n o (a.roomN (n := 2 * n) (by lia))).1 ra rb prg w E _ (K _ _ _ _ (Gr.refl ..) S (.bool b) h)
end
end Mine.Internal
end
section
open PySem PySem.W PySem.Calls PyProof.Rows
namespace Mine.Internal
section
variable {w: World} {B: Heap} {fr: List Env} {env: Env} {H: MH} {d: Nat} {ρ: Rho} {Q: V → MH → Prop}
theorem line_of {n: Nat} (h: n ≤ 1000000): n ≤ sizeLine := by rw [sizeLine]; lia
theorem Cal.len_list {l: Addr} {xs: List V} (hl: H.o l = some (.list xs)) (h: Q (.int xs.length) H) (hs: xs.length ≤ 1000000): Cal w B d (.builtin "len") [.ref l] H Q := by
 intro s vs r A fr E Q' a S K
 obtain ⟨uu, uu, rfl, r1, r⟩ := r.icons
 obtain rfl := r.inil; obtain rfl := r1.iref
 obtain ⟨vals, ⟨n, e⟩, q⟩ := S.rep _ _ hl
 have hlen := q.length
 refine call_len_list ⟨_, e, rfl, n, rfl⟩ (by rw [List.size_toArray]; lia) (K _ (.int xs.length) H _ (Gr.tok _) (S.tok _) ?_ h)
 rw [List.size_toArray, hlen]; exact .int ..
theorem len_poly {A: Around} {E Q': Value → Shared → Prop} {s: Shared} {a: Addr} {xs: List (List Int × Addr × Value)} (hd: (a == sysModules) = false) (hm: s.heap.DictOfH (tkd w) a xs) (hfit: xs.length ≤ 1000000)
  (h: ∀ t k, Q' (.int xs.length t) { s with toks := k }): wpAny (model prg w) A (call (.builtin "len") [.ref a]) Q' E s := by
 obtain ⟨o, es, ep, ho, hc, hdat, he, uu, uu⟩ := dcases hm
 have hsz := size_of_entries he
 refine Calls.call_function_entry kind_len plain_len entry_len (args_len1 _) ?_
 unfold Builtin.«len»
 refine wpAny_bind (m := oneArg "len" _) (wpAny_pure ?_)
 refine wpAny_bind (m := callSpecial? (.ref a) (Str.ofString "__len__")) (wpAny_callSpecial?_slot (name := Str.ofString "__len__") hm.typeIs F.slot_dict_len
  (wpAny_call_entry F.slot_dict_len hm.typeIs F.entry_dict_len ?_ (F.args_dict_len_1 _)))
 show wpAny _ _ (dictSize a >>= _) _ _ s
 unfold dictSize
 refine wpAny_bind (wpAny_bind (wpAny_dictEntries ho hdat (wpAny_pure ?_)))
 show wpAny _ _ (Builtin.Dict.pendingCount a >>= _) _ _ s
 refine wpAny_bind (wpAny_pendingCount_other hd (wpAny_ret_mkInt ?_))
 rw [show ((es.size: Int) + ((0: Nat): Int)) = (es.size: Int) by lia]
 refine wpAny_bind (wpAny_holding (wpAny_pure (wpAny_bind (wpAny_letGo ?_))))
 show wpAny _ _ (if ((es.size: Nat): Int) < 0 then _ else _) _ _ _
 rw [if_neg (by lia)]
 show wpAny _ _ (if ((es.size: Nat): Int) ≥ 2 ^ 63 then _ else _) _ _ _
 rw [if_neg (by lia)]
 exact wpAny_bind (wpAny_mkInt (wpAny_pure ⟨_, rfl, by rw [hsz]; exact h _ _⟩))
theorem Cal.len_poly {a: Addr} {p: PL} (ha: H.o a = some (.poly p)) (h: Q (.int p.length) H) (hs: p.length ≤ 1000000): Cal w B d (.builtin "len") [.ref a] H Q := by
 intro s vs r A fr E Q' A' S K
 obtain ⟨uu, uu, rfl, r1, r⟩ := r.icons
 obtain rfl := r.inil; obtain rfl := r1.iref
 obtain ⟨xs, hm, q⟩ := S.poly ha
 refine Internal.len_poly (S.nsys ha) hm (by rw [q.length]; exact hs) fun t k => ?_
 rw [q.length]
 exact K _ (.int p.length) H _ (Gr.tok _) (S.tok _) (.int ..) h
theorem ints_of {h: Heap}: ∀ {is: List Int} {vals: List Value}, VRs h vals (is.map V.int) → ∃ xs: Array (Int × Tok), vals.toArray = intItems xs ∧ xs.toList.map (·.1) = is
 | [], _, r => by cases r; exact ⟨#[], by simp [intItems], rfl⟩
 | i :: is, _, r => by
  rw [List.map_cons] at r
  obtain ⟨uu, uu, rfl, r1, r2⟩ := r.icons
  obtain ⟨t, rfl⟩ := r1.iint
  obtain ⟨xs, e1, e2⟩ := ints_of r2
  refine ⟨((i, t) :: xs.toList).toArray,?_, by simp [e2]⟩
  have e3 := congrArg Array.toList e1
  apply Array.toList_inj.mp
  simp [intItems] at e3 ⊢
  exact e3
theorem keep_K {s: Shared} {h': Heap} {tk: Nat} (S: HS w B fr H s) (kp: Keep s.heap h') (hz: s.heap.objs.size ≤ h'.objs.size): Gr NoX H s H { s with heap := h', toks := tk } ∧ HS w B fr H { s with heap := h', toks := tk } :=
 ⟨Gr.keep kp hz, S.keep kp hz⟩
theorem Cal.sum_list {l: Addr} {is: List Int} (hl: H.o l = some (.list (is.map V.int))) (h: Q (.int is.sum) H): Cal w B d (.builtin "sum") [.ref l] H Q := by
 intro s vs r A fr E Q' a S K
 obtain ⟨uu, uu, rfl, r1, r⟩ := r.icons
 obtain rfl := r.inil; obtain rfl := r1.iref
 obtain ⟨vals, ⟨n, e⟩, q⟩ := S.rep _ _ hl
 obtain ⟨xs, e1, e2⟩ := ints_of q
 refine sized (sum_intListG a.handled (xs := xs) ⟨_, e, rfl, n, by rw [← e1]⟩ fun h' tk t' hk hz => ?_)
 obtain ⟨g, S'⟩ := keep_K (tk := tk) S hk hz
 refine K _ (.int is.sum) H _ g S' ?_ h
 rw [preSum_eq, List.take_of_length_le (by simp), e2]; exact .int ..
theorem Cal.sum_tup {is: List Int} (h: Q (.int is.sum) H): Cal w B d (.builtin "sum") [.tup (is.map V.int)] H Q := by
 intro s vs r A fr E Q' a S K
 obtain ⟨uu, uu, rfl, r1, r⟩ := r.icons
 obtain rfl := r.inil; obtain ⟨t, vals, n, rfl, e, q⟩ := r1.itup
 obtain ⟨xs, e1, e2⟩ := ints_of q
 have hT: s.heap.IsTuple t (intItems xs) := ⟨_, e, rfl, n, by rw [← e1]⟩
 have hlt: t < s.heap.objs.size := Heap.lt_size e
 refine sized (call_sum_walkG (wpAny_pyIter_tuple hT ⟨_, _, _, _, _, _, numAt xs, rfl, Walks.tuple (A := A.in1) a.handled s.heap.objs.size t (Nat.ne_of_lt hlt) (intItems xs), ⟨⟨_, Heap.get?_push_size _ rfl, rfl, rfl⟩, hT.push _⟩,?_, (fun uu uu => intItems_at), fun h' tk t' hk hz => ?_⟩))
 ·intro b hb
  show b < (s.heap.push _).objs.size
  rw [Heap.size_push]
  rcases List.mem_cons.mp hb with rfl | hb
  ·exact Nat.lt_succ_self _
  ·rw [List.mem_singleton] at hb; subst hb; exact Nat.lt_succ_of_lt hlt
 ·have kp: Keep s.heap h' := fun b o q => hk b o (fun hm => by rw [List.mem_singleton] at hm; exact Nat.lt_irrefl _ (hm ▸ Heap.lt_size q)) (Heap.get?_push_of_some _ q)
  obtain ⟨g, S'⟩ := keep_K (tk := tk) S kp hz
  refine K _ (.int is.sum) H _ g S' ?_ h
  rw [preSum_eq, e2, List.take_of_length_le (by rw [← e2]; simp [intItems])]; exact .int ..
theorem Cal.max2 {i j: Int} (h: Q (.int (if j > i then j else i)) H): Cal w B d (.builtin "max") [.int i, .int j] H Q := by
 intro s vs r A fr E Q' a S K
 obtain ⟨uu, uu, rfl, r1, r⟩ := r.icons
 obtain ⟨uu, uu, rfl, r2, r⟩ := r.icons
 obtain rfl := r.inil; obtain ⟨uu, rfl⟩ := r1.iint; obtain ⟨uu, rfl⟩ := r2.iint
 refine sized (max_two_ints a.handled fun h' tk hk hz => ?_)
 obtain ⟨g, S'⟩ := keep_K (tk := tk) S hk hz
 refine K _ _ H _ g S' ?_ h
 split <;> exact .int ..
theorem Cal.min2 {i j: Int} (h: Q (.int (if j < i then j else i)) H): Cal w B d (.builtin "min") [.int i, .int j] H Q := by
 intro s vs r A fr E Q' a S K
 obtain ⟨uu, uu, rfl, r1, r⟩ := r.icons
 obtain ⟨uu, uu, rfl, r2, r⟩ := r.icons
 obtain rfl := r.inil; obtain ⟨uu, rfl⟩ := r1.iint; obtain ⟨uu, rfl⟩ := r2.iint
 refine sized (min_two_ints a.handled fun h' tk hk hz => ?_)
 obtain ⟨g, S'⟩ := keep_K (tk := tk) S hk hz
 refine K _ _ H _ g S' ?_ h
 split <;> exact .int ..
theorem Cal.tuple_list {l: Addr} {xs: List V} (hl: H.o l = some (.list xs)) (hs: xs.length ≤ 1000000) (h: Q (.tup xs) H): Cal w B d (.type "tuple") [.ref l] H Q := by
 intro s vs r A fr E Q' a S K
 obtain ⟨uu, uu, rfl, r1, r⟩ := r.icons
 obtain rfl := r.inil; obtain rfl := r1.iref
 obtain ⟨vals, ⟨n, e⟩, q⟩ := S.rep _ _ hl
 refine sized (call_tuple_list ⟨_, e, rfl, n, rfl⟩ (fun h' hk hz => ?_) (by rw [List.size_toArray, q.length]; exact line_of hs))
 have kp: Keep s.heap (h'.push { cls := .type "tuple", data := .seq vals.toArray }) := fun b o x => Heap.get?_push_of_some _ (hk b o x)
 obtain ⟨g, S'⟩ := keep_K (tk := s.toks) S kp hz
 exact K _ (.tup xs) H _ g S' (.tup (n := 0) (Heap.get?_push_size _ rfl) (VRs.mono' (Keep.tup kp) q)) h
theorem Cal.list_list {l: Addr} {xs: List V} (hl: H.o l = some (.list xs)) (hs: xs.length ≤ 1000000) (h: ∀ n, H.o n = none → Q (.ref n) (H.set n (.list xs))): Cal w B d (.type "list") [.ref l] H Q := by
 intro s vs r A fr E Q' a S K
 obtain ⟨uu, uu, rfl, r1, r⟩ := r.icons
 obtain rfl := r.inil; obtain rfl := r1.iref
 obtain ⟨vals, ⟨n, e⟩, q⟩ := S.rep _ _ hl
 refine sized (call_list_seq l (.inl rfl) e rfl rfl (fun h' c' hk hn hz => ?_) (by rw [List.size_toArray, q.length]; exact line_of hs))
 have kp: Keep s.heap h' := hk
 exact K _ (.ref s.heap.objs.size) (H.set s.heap.objs.size (.list xs)) _ (Gr.new (t := s.toks) kp hz (Nat.le_refl _)) (S.new (t := s.toks) kp hz (Nat.le_refl _) ⟨vals, ⟨c', hn⟩, VRs.mono' (Keep.tup kp) q⟩) (.ref _) (h _ S.fresh)
theorem Bin.add_list {l b: Addr} {xs ys: List V} (hl: H.o l = some (.list xs)) (hb: H.o b = some (.list ys)) (hs: xs.length + ys.length ≤ 1000000) (h: ∀ n, H.o n = none → Q (.ref n) (H.set n (.list (xs ++ ys)))): Bin w B d .Add (.ref l) (.ref b) H Q := by
 intro s va vb ra rb A fr E Q' a S K
 obtain rfl := ra.iref; obtain rfl := rb.iref
 obtain ⟨vals, ⟨n, e⟩, q⟩ := S.rep _ _ hl
 obtain ⟨vals', ⟨n', e'⟩, q'⟩ := S.rep _ _ hb
 have e0: vals.toArray ++ vals'.toArray = (vals ++ vals').toArray := by simp
 refine concat_meets ⟨_, e, rfl⟩ ⟨_, e', rfl⟩ noFill_list_add seq_list_add PySem.F.slot_list_add PySem.F.entry_list_add (PySem.F.args_list_add_2 _ _) (list_addW l b vals.toArray vals'.toArray n n' none none #[] #[] (by rw [List.size_toArray, List.size_toArray, q.length, q'.length]; exact line_of hs)) ⟨e, e',?_⟩
 rw [e0]
 have kp := Keep.push s.heap { cls := .type "list", data := .seq (vals ++ vals').toArray }
 exact K _ (.ref s.heap.objs.size) (H.set s.heap.objs.size (.list (xs ++ ys))) _ (Gr.new (t := s.toks) kp (by simp) (Nat.le_refl _)) (S.new (t := s.toks) kp (by simp) (Nat.le_refl _) ⟨vals ++ vals', ⟨0, Heap.get?_push_size _ rfl⟩, VRs.mono' (Keep.tup kp) (q.append q')⟩) (.ref _) (h _ S.fresh)
theorem Bin.add_tup {x y: V} {xs ys: List V} (hs: (x :: xs).length + (y :: ys).length ≤ 1000000) (h: Q (.tup ((x :: xs) ++ (y :: ys))) H): Bin w B d .Add (.tup (x :: xs)) (.tup (y :: ys)) H Q := by
 intro s va vb ra rb A fr E Q' a S K
 obtain ⟨l, vals, n, rfl, e, q⟩ := ra.itup
 obtain ⟨b, vals', n', rfl, e', q'⟩ := rb.itup
 have e0: vals.toArray ++ vals'.toArray = (vals ++ vals').toArray := by simp
 have h1: vals ≠ [] := by rintro rfl; cases q
 have h2: vals' ≠ [] := by rintro rfl; cases q'
 refine concat_meets ⟨_, e, rfl⟩ ⟨_, e', rfl⟩ noFill_tuple_add seq_tuple_add PySem.F.slot_tuple_add PySem.F.entry_tuple_add (PySem.F.args_tuple_add_2 _ _) (tuple_addW2 l b vals.toArray vals'.toArray n n' none none #[] #[] (by simpa using h1) (by simpa using h2) (by rw [List.size_toArray, List.size_toArray, q.length, q'.length]; exact line_of hs)) ⟨e, e',?_⟩
 rw [e0]
 have kp := Keep.push s.heap { cls := .type "tuple", data := .seq (vals ++ vals').toArray }
 exact K _ (.tup (x :: xs ++ y :: ys)) H _ (Gr.keep (t := s.toks) kp (by simp)) (S.keep (t := s.toks) kp (by simp)) (.tup (n := 0) (Heap.get?_push_size _ rfl) (VRs.mono' (Keep.tup kp) (q.append q'))) h
end
end Mine.Internal
end
section
open PySem PySem.W PySem.Calls PyProof.Rows
namespace Mine.Internal
section
variable {w: World} {B: Heap} {fr: List Env} {env: Env} {H: MH} {d: Nat} {ρ: Rho} {Q: V → MH → Prop}
theorem pick_upto (items: Array Value) (b: Nat): slicePick items none (some b) none = (items.toList.take b).toArray := by
 have e: sliceBounds none (some (b: Int)) none items.size = (((0: Nat): Int), ((min b items.size: Nat): Int), 1) := by
  simp only [sliceBounds, Option.getD_none]
  have h2: ¬ ((b: Int) < 0) := by lia
  simp only [h2, if_false, show (1: Int) > 0 by decide, if_true]
  congr 2; lia
 unfold slicePick
 rw [e]
 simp only [sliceRange_one, pick_run]
 simp only [Nat.sub_zero, List.drop_zero]
 congr 1
 rcases Nat.le_total b items.size with h | h
 ·rw [Nat.min_eq_left h]
 ·rw [Nat.min_eq_right h, List.take_of_length_le (by simp), List.take_of_length_le (by simpa using h)]
theorem Ev.list_upto {value e: Expr} {p pos: Pos}
  (h: Ev w B env d value ρ H fun v H1 => Ev w B env d e ρ H1 fun i H2 => ∃ l xs k, v = .ref l ∧ i = .int (k: Nat) ∧ H2.o l = some (.list xs) ∧ xs.length ≤ 1000000 ∧ ∀ n, H2.o n = none → Q (.ref n) (H2.set n (.list (xs.take k))))
  (ht: ∀ o r, letTemporaryGo value o r = pure () := by intro uu uu; rfl): Ev w B env d (.Subscript value (.Slice none (some e) none p) pos) ρ H Q := by
 intro A fr s E Q' a S W K
 refine wpAny_Subscript_list_slice (h A fr s E _ a S W fun v1 x H1 s1 g1 S1 r1 q1 => ?_) ht
 rw [evalPart_none]
 refine wpAny_pure ?_
 rw [evalPart_some]
 refine q1 A fr s1 E _ a S1 (W.gr S g1) fun v2 y H2 s2 g2 S2 r2 zz => ?_
 obtain ⟨l, xs, k, e1, e2, hl, hs, q⟩ := zz
 subst e1; subst e2
 obtain rfl := r1.iref; obtain ⟨t, rfl⟩ := r2.iint
 obtain ⟨vals, ⟨n, e⟩, qq⟩ := S2.rep _ _ hl
 refine ⟨l, vals.toArray, none, some (k: Int), rfl, ⟨_, e, rfl, n, rfl⟩, by rw [List.size_toArray, qq.length]; exact line_of hs, .none, .int _ _,?_⟩
 rw [pick_upto]
 have kp1 := Keep.push s2.heap { cls := .type "slice", data := .fields #[.none, .int k t, .none] }
 have kp := Keep.trans kp1 (Keep.push (s2.heap.push { cls := .type "slice", data := .fields #[.none, .int k t, .none] }) { cls := .type "list", data := .seq (vals.toArray.toList.take k).toArray })
 have hz: (s2.heap.push { cls := .type "slice", data := .fields #[.none, .int k t, .none] }).objs.size = s2.heap.objs.size + 1 := Heap.size_push ..
 refine K _ (.ref (s2.heap.objs.size + 1)) (H2.set (s2.heap.objs.size + 1) (.list (xs.take k))) _ ((g1.trans g2).trans (Gr.new (t := s2.toks) kp (by simp; lia) (Nat.le_succ _))) (S2.new (t := s2.toks) kp (by simp; lia) (Nat.le_succ _) ⟨vals.take k, ⟨0,?_⟩, VRs.mono' (Keep.tup kp) ?_⟩) (.ref _) (q _ ?_)
 ·rw [← hz]; exact Heap.get?_push_size _ rfl
 ·have: ∀ {vs: List Value} {xs: List V} (k: Nat), VRs s2.heap vs xs → VRs s2.heap (vs.take k) (xs.take k) := by
   intro vs xs k r
   induction k generalizing vs xs with
   | zero => simp; exact .nil
   | succ k ih => cases r with
    | nil => simp; exact .nil
    | cons r1 r2 => simp; exact .cons r1 (ih r2)
  exact this k qq
 ·cases q: H2.o (s2.heap.objs.size + 1) with
  | none => rfl
  | some mo => exact absurd (S2.lt _ (by rw [q]; simp)) (Nat.not_lt.mpr (Nat.le_succ _))
theorem Ev.list_from {value e: Expr} {p pos: Pos}
  (h: Ev w B env d value ρ H fun v H1 => Ev w B env d e ρ H1 fun i H2 => ∃ l xs k, v = .ref l ∧ i = .int (k: Nat) ∧ H2.o l = some (.list xs) ∧ k ≤ xs.length ∧ xs.length ≤ 1000000 ∧ ∀ n, H2.o n = none → Q (.ref n) (H2.set n (.list (xs.drop k))))
  (ht: ∀ o r, letTemporaryGo value o r = pure () := by intro uu uu; rfl): Ev w B env d (.Subscript value (.Slice (some e) none none p) pos) ρ H Q := by
 intro A fr s E Q' a S W K
 refine wpAny_Subscript_list_slice (h A fr s E _ a S W fun v1 x H1 s1 g1 S1 r1 q1 => ?_) ht
 rw [evalPart_some]
 refine q1 A fr s1 E _ a S1 (W.gr S g1) fun v2 y H2 s2 g2 S2 r2 zz => ?_
 obtain ⟨l, xs, k, e1, e2, hl, hk, hs, q⟩ := zz
 rw [evalPart_none]
 refine wpAny_pure ?_
 subst e1; subst e2
 obtain rfl := r1.iref; obtain ⟨t, rfl⟩ := r2.iint
 obtain ⟨vals, ⟨n, e⟩, qq⟩ := S2.rep _ _ hl
 refine ⟨l, vals.toArray, some (k: Int), none, rfl, ⟨_, e, rfl, n, rfl⟩, by rw [List.size_toArray, qq.length]; exact line_of hs, .int _ _, .none,?_⟩
 rw [slicePick_from _ _ (by rw [List.size_toArray, qq.length]; exact hk)]
 have kp1 := Keep.push s2.heap { cls := .type "slice", data := .fields #[.int k t, .none, .none] }
 have kp := Keep.trans kp1 (Keep.push (s2.heap.push { cls := .type "slice", data := .fields #[.int k t, .none, .none] }) { cls := .type "list", data := .seq (vals.toArray.toList.drop k).toArray })
 have hz: (s2.heap.push { cls := .type "slice", data := .fields #[.int k t, .none, .none] }).objs.size = s2.heap.objs.size + 1 := Heap.size_push ..
 refine K _ (.ref (s2.heap.objs.size + 1)) (H2.set (s2.heap.objs.size + 1) (.list (xs.drop k))) _ ((g1.trans g2).trans (Gr.new (t := s2.toks) kp (by simp; lia) (Nat.le_succ _))) (S2.new (t := s2.toks) kp (by simp; lia) (Nat.le_succ _) ⟨vals.drop k, ⟨0,?_⟩, VRs.mono' (Keep.tup kp) ?_⟩) (.ref _) (q _ ?_)
 ·rw [← hz]; exact Heap.get?_push_size _ rfl
 ·have: ∀ {vs: List Value} {xs: List V} (k: Nat), VRs s2.heap vs xs → VRs s2.heap (vs.drop k) (xs.drop k) := by
   intro vs xs k r
   induction k generalizing vs xs with
   | zero => simpa using r
   | succ k ih => cases r with
    | nil => simp; exact .nil
    | cons r1 r2 => simp; exact ih r2
  exact this k qq
 ·cases q: H2.o (s2.heap.objs.size + 1) with
  | none => rfl
  | some mo => exact absurd (S2.lt _ (by rw [q]; simp)) (Nat.not_lt.mpr (Nat.le_succ _))
theorem sliceApplied_rev {A: Around} {E: Value → Shared → Prop} {s: Shared} {sl: Addr} {u: Tok} {Q: Int × Int × Nat → Shared → Prop} (hs: s.heap.IsSliceOf sl .none .none (.int (-1) u)) (h: Q (1, -1, 2) s) :
  wpAny (model prg w) A (Builtin.Slice.sliceApplied (.ref sl) (pure ((2: Nat): Int))) Q E s := by
 obtain ⟨os, hos, hcs, hds⟩ := id hs
 unfold Builtin.Slice.sliceApplied Builtin.Slice.sliceFields
 refine wpAny_bind (wpAny_bind (wpAny_field hos hds (x := .none) rfl (wpAny_bind (wpAny_field hos hds (x := .none) rfl (wpAny_bind (wpAny_field hos hds (x := .int (-1) u) rfl (wpAny_pure ?_)))))))
 refine wpAny_bind (slicePart_int ?_)
 show wpAny _ _ (if ((-1: Int) == 0) = true then _ else _) _ _ s
 rw [if_neg (by decide)]
 refine wpAny_bind (slicePart_none (wpAny_bind (slicePart_none (wpAny_bind (wpAny_pure ?_)))))
 exact wpAny_pure h
theorem getItem_rev {A: Around} {E Q: Value → Shared → Prop} {s: Shared} {t sl: Addr} {x y: Value} {u: Tok} (ht: IsTup s.heap t #[x, y]) (hs: s.heap.IsSliceOf sl .none .none (.int (-1) u))
  (h: Q (.ref s.heap.objs.size) { s with heap := s.heap.push { cls := .type "tuple", data := .seq #[y, x] } }): wpAny (model prg w) A (getItem (.ref t) (.ref sl)) Q E s := by
 obtain ⟨os, hos, hcs, hds⟩ := id hs
 have hTs: s.TypeIs (.ref sl) "slice" := ⟨os, hos, hcs⟩
 unfold getItem
 try with_reducible refine wpAny_holding ?_
 first | refine wpAny_bind (wpAny_pure ?_) | skip
 refine wpAny_bind (wpAny_sequenceKey ht.typeIs (by decide) ?_)
 refine wpAny_bind (wpAny_callSpecial?_slot (name := Str.ofString "__getitem__") ht.typeIs slot_tuple_getitem
  (wpAny_call_entry slot_tuple_getitem ht.typeIs entry_tuple_getitem ?_ (args_tuple_getitem _ _)))
 show wpAny _ _ (Builtin.Tuple.tupleItemsOf (.ref t) >>= _) _ _ s
 refine wpAny_bind (tupleItemsOf_ ht ?_)
 refine wpAny_bind (wpAny_typeOf hTs ?_)
 rw [if_pos (by decide)]
 refine wpAny_bind (sliceApplied_rev hs ?_)
 show wpAny _ _ (if ((1: Int) == 0 && (-1: Int) == 1 && 2 == 2) = true then _ else _) _ _ s
 rw [if_neg (by decide), show ((List.range 2).filterMap fun (k: Nat) => (#[x, y]: Array Value)[((1: Int) + (k: Int) * (-1)).toNat]?).toArray = #[y, x] from rfl]
 first
  | exact wpAny_bind (m := Builtin.Tuple.tupleExact _) (wpAny_newObj_type (wpAny_pure ⟨_, rfl, wpAny_pure h⟩) (by show (2: Nat) ≤ sizeLine; decide))
  | exact wpAny_bind (m := Builtin.Tuple.tupleExact _) (wpAny_newObj_type (wpAny_bind (wpAny_pure (wpAny_pure ⟨_, rfl, wpAny_pure h⟩))) (by show (2: Nat) ≤ sizeLine; decide))
  | exact wpAny_bind (wpAny_bind (m := Builtin.Tuple.tupleExact _) (wpAny_newObj_type (wpAny_pure (wpAny_pure ⟨_, rfl, wpAny_pure h⟩)) (by show (2: Nat) ≤ sizeLine; decide)))
  | exact wpAny_bind (wpAny_bind (m := Builtin.Tuple.tupleExact _) (wpAny_newObj_type (wpAny_pure ⟨_, rfl, wpAny_pure h⟩) (by show (2: Nat) ≤ sizeLine; decide)))
theorem Ev.tup_rev {value st: Expr} {p pos: Pos}
  (h: Ev w B env d value ρ H fun v H1 => Ev w B env d st ρ H1 fun i H2 => ∃ x y, v = .tup [x, y] ∧ i = .int (-1) ∧ Q (.tup [y, x]) H2)
  (ht: ∀ o r, letTemporaryGo value o r = pure () := by intro uu uu; rfl): Ev w B env d (.Subscript value (.Slice none none (some st) p) pos) ρ H Q := by
 intro A fr s E Q' a S W K
 refine wpAny_Subscript_Slice_step (T := "tuple") slot_tuple_getitem.lookup (h A fr s E _ a S W fun v1 x H1 s1 g1 S1 r1 q1 => wpAny_Slice ?_) ht
 rw [evalPart_none]
 refine wpAny_pure (wpAny_pure ?_)
 rw [evalPart_some]
 refine q1 A fr s1 E _ a S1 (W.gr S g1) fun v2 z H2 s2 g2 S2 r2 zz => ?_
 obtain ⟨x, y, e1, e2, q⟩ := zz
 subst e1; subst e2
 have r1' := S1.vr g2 r1
 obtain ⟨l, vals, n, rfl, e, rs⟩ := r1'.itup
 obtain ⟨v1, vs, rfl, a1, rs⟩ := rs.icons
 obtain ⟨v2, vs, rfl, a2, rs⟩ := rs.icons
 obtain rfl := rs.inil
 obtain ⟨t, rfl⟩ := r2.iint
 have kp1 := Keep.push s2.heap { cls := .type "slice", data := .fields #[.none, .none, .int (-1) t] }
 have hT: IsTup (s2.heap.push { cls := .type "slice", data := .fields #[.none, .none, .int (-1) t] }) l #[v1, v2] := ⟨_, kp1 _ _ e, rfl, n, rfl⟩
 refine ⟨⟨_, kp1 _ _ e, rfl⟩, getItem_rev hT (Heap.IsSliceOf.new ..) ?_⟩
 have kp := Keep.trans kp1 (Keep.push (s2.heap.push { cls := .type "slice", data := .fields #[.none, .none, .int (-1) t] }) { cls := .type "tuple", data := .seq #[v2, v1] })
 exact K _ (.tup [y, x]) H2 _ ((g1.trans g2).trans (Gr.keep (t := s2.toks) kp (by simp; lia))) (S2.keep (t := s2.toks) kp (by simp; lia)) (.tup (n := 0) (Heap.get?_push_size _ rfl) (.cons (VR.mono' (Keep.tup kp) a2) (.cons (VR.mono' (Keep.tup kp) a1) .nil))) q
noncomputable def OnT (w: World) (B: Heap) (T: String) (v: V) (H: MH): Prop := ∀ (fr: List Env) (s: Shared) (val: Value), HS w B fr H s → VR s.heap val v → s.TypeIs val T ∧ ∀ a, val = .ref a → ∃ ob, s.heap.get? a = some ob ∧ ob.dict = none
theorem OnT.list {l: Addr} {xs: List V} (hl: H.o l = some (.list xs)): OnT w B "list" (.ref l) H := fun fr s val S r => by
 obtain rfl := r.iref
 obtain ⟨vals, ⟨n, e⟩, q⟩ := S.rep _ _ hl
 exact ⟨⟨_, e, rfl⟩, fun a ea => by obtain rfl := Value.ref.inj ea; exact ⟨_, e, rfl⟩⟩
theorem OnT.poly {l: Addr} {p: PL} (hl: H.o l = some (.poly p)): OnT w B "dict" (.ref l) H := fun fr s val S r => by
 obtain rfl := r.iref
 obtain ⟨xs, ⟨o, es, ep, e, hc, uu⟩, q⟩ := S.poly hl
 exact ⟨⟨_, e, hc.1⟩, fun a ea => by obtain rfl := Value.ref.inj ea; exact ⟨_, e, hc.2.1⟩⟩
theorem Ev.method {o: Expr} {name: Str} {apos pos: Pos} {e: Expr} {es: List Expr} {T id: String}
  (pa: PlainAttrs T) (slot: Slot T name id) (hty: typeOf (.builtin id) = pure (.type "method_descriptor"))
  (h: Ev w B env d o ρ H fun v H1 => OnT w B T v H1 ∧ Evs w B env d (e :: es) ρ H1 fun xs H2 => Cal w B d (.builtin id) (v :: xs) H2 Q)
  (hbase: attributeBase o name env (eval o env) = eval o env := by rfl)
  (hfew: ((backTo pos (starEach (e :: es) env)).all (fun x => !x.1) && (backToKw pos (keywordEach [] env)).all (fun x => x.1.isSome)
   && decide ((e :: es).length + ([]: List Keyword).length + (if ([]: List Keyword).isEmpty then 0 else 1) < 30)) = true := by rfl)
  (hline: (apos.endLine == pos.line) = true := by rfl) (hp: (e :: es).all noStar = true := by rfl) :
  Ev w B env d (.Call (.Attribute o name apos) (e :: es) [] pos) ρ H Q := by
 intro A fr s E Q' a S W K
 have hp' := Bool.and_eq_true_iff.mp hp
 refine wpAny_Call_method hbase hfew hline pa slot hty (h A fr s E _ a S W fun ov v H1 s1 g1 S1 r1 zz => ?_)
 obtain ⟨hT, q1⟩ := zz
 obtain ⟨t1, t2⟩ := hT fr s1 ov S1 r1
 refine ⟨t1, t2, Calls.callWith_builtin (starEach_any hp) ?_⟩
 rw [starEach_plain hp'.1]
 refine Calls.evalArgs_plain ?_
 have := Evs.run (pos := pos) hp q1 a S1 (W.gr S g1) (E := E) (Q' := fun vs s' => wpAny (model prg w) A (PySem.call (.builtin id) ([ov] ++ vs)) Q' E s') (fun vals vs H2 s2 g2 S2 r2 q2 => ?_)
 ·rw [starEach_plain hp'.1] at this; exact this
 ·exact q2 s2 (ov :: vals) (.cons (S1.vr g2 r1) r2) A fr E Q' a S2 fun v z H3 s3 g3 S3 r3 q3 => K v z H3 s3 ((g1.trans g2).trans g3) S3 r3 q3
end
end Mine.Internal
end
section
open PySem PySem.W PySem.Calls PyProof.Rows
namespace Mine.Internal
noncomputable def mhash (m: Mon): Int := reduceHash (Builtin.Tuple.tupleHashOf [hashInt m.1, hashInt m.2])
noncomputable def HashOk (p: PL): Prop := (p.map fun e => mhash e.1).Nodup
section
variable {w: World} {B: Heap} {fr: List Env} {env: Env} {H: MH} {d: Nat} {ρ: Rho} {Q: V → MH → Prop}
theorem hash_filter {h: Int}: ∀ {l: List DictEntry}, (l.map (·.hash)).Nodup → (l.filter fun e => e.hash == h).length ≤ 1
 | [], _ => by simp
 | x :: l, hn => by
  rw [List.map_cons, List.nodup_cons] at hn
  by_cases q: x.hash = h
  ·rw [List.filter_cons_of_pos (by simpa using q)]
   have: l.filter (fun e => e.hash == h) = [] := by
    rw [List.filter_eq_nil_iff]
    intro y hy e
    exact hn.1 (List.mem_map.mpr ⟨y, hy, by rw [q]; simpa using e⟩)
   rw [this]; simp
  ·rw [List.filter_cons_of_neg (by simpa using q)]
   exact hash_filter hn.2
theorem entriesH {A: Around} {s: Shared} {E: Value → Shared → Prop} {id: String} {o: Addr} {oo: Obj} {es: Array DictEntry} {ep: Nat} {Q: Array DictEntry → Shared → Prop} (ho: s.heap.get? o = some oo) (hd: oo.data = .dict es ep)
  (hk: ∀ e ∈ es.toList, ∃ k, e.key = .ref k ∧ s.TypeIs (.ref k) "tuple") (hn: (es.toList.map (·.hash)).Nodup) (h: Q es s): wpAny (model prg w) A (Builtin.Dict.entriesForEmpty id o) Q E s := by
 unfold Builtin.Dict.entriesForEmpty
 refine wpAny_bind (wpAny_dictEntries ho hd (wpAny_bind ?_))
 refine PySem.MeetsSeq2.wpAny_forIn_array _ (fun rest uu s' => s' = s ∧ ∀ e ∈ rest, e ∈ es.toList) _ ?_ ?_ _ _ ⟨rfl, fun e he => by simpa using he⟩
 ·rintro e rest b s' ⟨rfl, hr⟩
  obtain ⟨k, ek, hT⟩ := hk e (hr e List.mem_cons_self)
  refine wpAny_bind ?_
  unfold Builtin.Dict.quietEq
  rw [ek]
  refine wpAny_bind (wpAny_specialOf hT F.slot_tuple_eq.lookup (wpAny_pure ?_))
  rw [show (!(some (Value.builtin "tuple.__eq__") == some (Value.builtin "object.__eq__"))) = true by decide, if_pos rfl]
  have hf: ¬ (es.filter (fun x => x.hash == e.hash)).size > 1 := by
   have := hash_filter (h := e.hash) hn
   have e2: (es.filter (fun x => x.hash == e.hash)).size = (es.toList.filter (fun x => x.hash == e.hash)).length := by
    rw [← Array.length_toList, Array.toList_filter]
   lia
  rw [if_neg hf]
  exact wpAny_pure ⟨rfl, fun e he => hr e (List.mem_cons_of_mem _ he)⟩
 ·rintro b s' ⟨rfl, uu⟩
  exact wpAny_pure h
theorem Cal.dict_copy {a: Addr} {p: PL} (ha: H.o a = some (.poly p)) (hp: HashOk p) (hl: p.length ≤ 1000000) (h: ∀ n, H.o n = none → Q (.ref n) (H.set n (.poly p))): Cal w B d (.type "dict") [.ref a] H Q := by
 intro s vs r A fr E Q' A' S K
 obtain ⟨uu, uu, rfl, r1, r⟩ := r.icons
 obtain rfl := r.inil; obtain rfl := r1.iref
 obtain ⟨xs, hm, rs⟩ := S.poly ha
 obtain ⟨o, es, ep, ho, hc, hdat, he, his, hn⟩ := dcases hm
 have hsz := size_of_entries he
 have hlx := rs.length
 have hkeys: ∀ e ∈ es.toList, ∃ k, e.key = .ref k ∧ s.TypeIs (.ref k) "tuple" := fun e hin => by
  rw [he] at hin
  obtain ⟨x, hx, rfl⟩ := List.mem_map.mp hin
  exact ⟨x.2.1, rfl, (his x hx).typeIs⟩
 have hhash: (es.toList.map (·.hash)).Nodup := by
  have: ∀ {xs: List (List Int × Addr × Value)} {p: PL}, All2 (PE s.heap) xs p → (xs.map (entryOfKey (tkd w))).map (·.hash) = p.map fun e => mhash e.1 := by
   intro xs p r
   induction r with
   | nil => rfl
   | @cons x e xs p hx uu ih =>
    rw [List.map_cons, List.map_cons, List.map_cons, ih]
    congr 1
    show tupleKeyHash (intKind prg w) x.1 = _
    rw [hx.1]; rfl
  rw [he, this rs]; exact hp
 refine sized (callType_codes (Q₁ := fun obj s₁ => obj = .ref s.heap.objs.size ∧ s₁ = { s with heap := s.heap.push { cls := .type "dict", data := .dict #[] } }) PySem.F.kt_called_dict (PySem.F.kt_typeCall_dict_1 _) F.entry_dict_init (kt_code_dict_new _ ⟨rfl, rfl⟩) ?_)
 rintro obj s₁ ⟨rfl, rfl⟩
 have kp := Keep.push s.heap { cls := .type "dict", data := .dict #[] }
 have hnew: (s.heap.push { cls := .type "dict", data := .dict #[] }).get? s.heap.objs.size = some { cls := .type "dict", data := .dict #[] } := Heap.get?_push_size _ rfl
 have hTn: Shared.TypeIs { s with heap := s.heap.push { cls := .type "dict", data := .dict #[] } } (.ref s.heap.objs.size) "dict" := ⟨_, hnew, rfl⟩
 have hTo: Shared.TypeIs { s with heap := s.heap.push { cls := .type "dict", data := .dict #[] } } (.ref a) "dict" := ⟨_, kp _ _ ho, hc.1⟩
 have hdo: s.heap.objs.size ≠ a := fun e => absurd (Heap.lt_size ho) (by rw [e]; exact Nat.lt_irrefl _)
 refine ⟨hTn, F.args_dict_init_2 _ _,?_⟩
 unfold Builtin.«dict.__init__»
 refine wpAny_bind ?_
 unfold Builtin.Dict.selfAndRest
 refine wpAny_bind (wpAny_notOrdered_dict hTn (show wpAny _ _ (pure (s.heap.objs.size, [Value.ref a])) _ _ _ from wpAny_pure ?_))
 show wpAny _ _ (Builtin.Dict.updateFrom "dict.__init__" s.heap.objs.size (.ref a) [] .none) _ _ _
 unfold Builtin.Dict.updateFrom
 refine wpAny_bind (wpAny_typeOf hTo ?_)
 rw [if_neg (by decide)]
 refine wpAny_bind ?_
 unfold Builtin.Dict.merge
 refine wpAny_bind ?_
 unfold Builtin.Dict.readDirectly
 refine wpAny_bind (wpAny_isInstance hTo isSubtype_dict_dict ?_)
 simp only [Bool.not_true, Bool.false_eq_true, if_false]
 refine wpAny_bind (wpAny_specialOf hTo F.slot_dict_iter.lookup (wpAny_pure ?_))
 simp only [beq_self_eq_true, if_true]
 refine wpAny_bind (wpAny_pure ?_)
 unfold Builtin.Dict.mergeDict
 rw [if_neg (by simpa using hdo)]
 unfold Builtin.Dict.showsAll
 rw [if_neg (by rw [S.nsys ha]; exact Bool.false_ne_true)]
 refine wpAny_bind (wpAny_pure (wpAny_bind (wpAny_dictEntries (kp _ _ ho) hdat ?_)))
 have fin: ∀ h', h'.objs.size = s.heap.objs.size + 1 → Keep s.heap h' → (∃ o ep', h'.get? s.heap.objs.size = some o ∧ o.ExactDict ∧ o.data = .dict es ep') →
   (s.heap.objs.size ≤ h'.objs.size → Q' (.ref s.heap.objs.size) { s with heap := h' }) := by
  intro h' hz kp' ⟨o', ep', e1, e2, e3⟩ _
  have kt := Keep.tup kp'
  refine K (.ref s.heap.objs.size) (.ref s.heap.objs.size) (H.set s.heap.objs.size (.poly p)) _ (Gr.new (t := s.toks) kp' (by rw [hz]; exact Nat.le_succ _) (Nat.le_refl _)) (S.new (t := s.toks) kp' (by rw [hz]; exact Nat.le_succ _) (Nat.le_refl _) ⟨xs, ⟨o', es, ep', e1, e2, e3, he, fun x hx => ?_, hn⟩, rs.mono fun uu uu q => ⟨q.1, VR.mono' kt q.2.1, VR.mono' kt q.2.2⟩⟩) (.ref _) (h _ S.fresh)
  obtain ⟨o2, items, n, e', hc', hd', hi⟩ := his x hx
  exact ⟨o2, items, n, kp' _ _ e', hc', hd', hi⟩
 by_cases h0: es = #[]
 ·subst h0
  dsimp only
  rw [if_neg (by simp)]
  refine wpAny_bind (wpAny_dictEpoch (kp _ _ ho) hdat (wpAny_bind (wpAny_dictEntries (kp _ _ ho) hdat (wpAny_bind ?_))))
  rw [Std.Legacy.Range.forIn_eq_forIn_range']
  refine wpAny_pure (wpAny_pure ?_)
  exact wpAny_bind (wpAny_pure (wpAny_pure ⟨rfl, fin _ (Heap.size_push ..) kp ⟨_, 0, hnew, ⟨rfl, rfl, rfl⟩, rfl⟩⟩))
 ·have hne: ∃ e r, es.toList = e :: r := by
   cases q: es.toList with
   | nil => exact absurd (Array.toList_inj.mp q) h0
   | cons e r => exact ⟨e, r, rfl⟩
  obtain ⟨e0, r0, hes⟩ := hne
  have hall: (es.all fun e => (keyPart e.key).isSome) = false := by
   rw [← Array.all_toList, hes, List.all_cons]
   obtain ⟨k, ek, uu⟩ := hkeys e0 (by rw [hes]; exact List.mem_cons_self)
   rw [ek]; rfl
  have hemp: es.isEmpty = false := by
   cases q: es.isEmpty with
   | false => rfl
   | true => exact absurd (by simpa using q) h0
  dsimp only
  rw [hall, if_pos (by simp)]
  refine wpAny_bind (wpAny_dictEntries hnew rfl ?_)
  rw [if_pos (by rfl)]
  refine wpAny_bind (entriesH (kp _ _ ho) hdat (fun e he' => by obtain ⟨k, ek, o, e1, e2⟩ := hkeys e he'; exact ⟨k, ek, o, kp _ _ e1, e2⟩) hhash ?_)
  rw [hemp, if_pos (by rfl)]
  refine wpAny_bind (wpAny_updateDictKeysTo hnew rfl (wpAny_pure ?_) (by show es.size ≤ _; rw [hsz, hlx, sizeLine]; lia))
  ·refine wpAny_bind (wpAny_pure (wpAny_pure ⟨rfl, fin _ (by rw [Heap.size_after_update, Heap.size_push]) ?_ ?_⟩))
   ·intro b o' e'
    exact (Heap.get?_update_other _ _ (fun q => by subst q; exact Nat.lt_irrefl _ (Heap.lt_size e'))).trans (kp b o' e')
   ·exact ⟨_, _, Heap.get?_update_self _ hnew (Obj.isFreed_of_dict (Obj.data_mapDictKeys rfl _)), (show Obj.ExactDict _ from ⟨rfl, rfl, rfl⟩: Obj.ExactDict { cls := .type "dict", data := .dict #[] }).mapDictKeys _, Obj.data_mapDictKeys rfl _⟩
theorem upd_seq (its: Array Value) (n: Nat) (f: Array Value → Array Value): ∃ m, Obj.mapSeq f { cls := .type "list", data := .seq its n } = { cls := .type "list", data := .seq (f its) m } := ⟨_, by simp only [Obj.mapSeq]; rfl⟩
theorem list_upd {s: Shared} {l: Addr} {xs ys: List V} {vals vals': List Value} {n: Nat} {f: Array Value → Array Value} (S: HS w B fr H s) (hl: H.o l = some (.list xs)) (e: s.heap.get? l = some { cls := .type "list", data := .seq vals.toArray n })
  (hf: f vals.toArray = vals'.toArray) (hv: TupKeep s.heap (s.heap.update l (Obj.mapSeq f)) → VRs (s.heap.update l (Obj.mapSeq f)) vals' ys) (t: Nat) :
  Gr NoX H s (H.set l (.list ys)) { s with heap := s.heap.update l (Obj.mapSeq f), toks := t } ∧ HS w B fr (H.set l (.list ys)) { s with heap := s.heap.update l (Obj.mapSeq f), toks := t } := by
 have sb: Heap.SameBut l s.heap (s.heap.update l (Obj.mapSeq f)) := Heap.SameBut.update ..
 obtain ⟨m, em⟩ := upd_seq vals.toArray n f
 refine ⟨Gr.upd hl sb, S.upd hl sb fun kt => ⟨vals', ⟨m,?_⟩, hv kt⟩⟩
 rw [Heap.get?_update_self _ e (by rw [em]; rfl), em, hf]
theorem Cal.append {l: Addr} {xs: List V} {x: V} (hl: H.o l = some (.list xs)) (hs: xs.length ≤ 1000000) (h: Q .none (H.set l (.list (xs ++ [x])))): Cal w B d (.builtin "list.append") [.ref l, x] H Q := by
 intro s vs r A fr E Q' a S K
 obtain ⟨uu, uu, rfl, r1, r⟩ := r.icons
 obtain ⟨v, uu, rfl, r2, r⟩ := r.icons
 obtain rfl := r.inil; obtain rfl := r1.iref
 obtain ⟨vals, ⟨n, e⟩, q⟩ := S.rep _ _ hl
 refine wpAny_list_append_plain ⟨n, e⟩ (fun h' pl sb => ?_) (by rw [List.size_toArray, q.length]; exact line_of hs)
 exact K _ .none (H.set l (.list (xs ++ [x]))) _ (Gr.upd hl sb) (S.upd hl sb fun kt => ⟨vals ++ [v], by simpa using pl, VRs.mono' kt (q.append (.cons r2 .nil))⟩) .none h
theorem Cal.extend {l b: Addr} {xs ys: List V} (hl: H.o l = some (.list xs)) (hb: H.o b = some (.list ys)) (hs: xs.length + ys.length ≤ 1000000) (h: Q .none (H.set l (.list (xs ++ ys)))): Cal w B d (.builtin "list.extend") [.ref l, .ref b] H Q := by
 intro s vs r A fr E Q' a S K
 obtain ⟨uu, uu, rfl, r1, r⟩ := r.icons
 obtain ⟨uu, uu, rfl, r2, r⟩ := r.icons
 obtain rfl := r.inil; obtain rfl := r1.iref; obtain rfl := r2.iref
 obtain ⟨vals, ⟨n, e⟩, q⟩ := S.rep _ _ hl
 obtain ⟨vals', ⟨n', e'⟩, q'⟩ := S.rep _ _ hb
 have h1: vals.toArray.size + vals'.toArray.size ≤ 1000000 := by rw [List.size_toArray, List.size_toArray, q.length, q'.length]; exact hs
 have hd: ¬(!vals.toArray.isEmpty && Builtin.List.listTooLong (vals.toArray.size + vals'.toArray.size)) = true := by
  unfold Builtin.List.listTooLong
  rw [Bool.and_eq_true, not_and]
  intro uu hh
  have := line_of h1
  have h2: vals.toArray.size + vals'.toArray.size > sizeLine := by simpa using hh
  lia
 refine call_meets PySem.F.slot_list_extend ⟨_, e, rfl⟩ PySem.F.entry_list_extend (PySem.F.args_list_extend_2 _ _) (PySem.AutoSeq1.list_extend_list_list_0 l vals.toArray n b vals'.toArray n' hd (line_of (by lia)) (by have := line_of h1; lia)) ⟨e, e',?_⟩
 obtain ⟨g, S'⟩ := list_upd (ys := xs ++ ys) (vals' := vals ++ vals') (f := fun x => x ++ vals'.toArray) S hl e (by simp) (fun kt => VRs.mono' kt (q.append q')) s.toks
 exact K _ .none _ _ g S' .none h
theorem Cal.pop0 {l: Addr} {x: V} {xs: List V} (hl: H.o l = some (.list (x :: xs))) (hs: (x :: xs).length ≤ 1000000) (h: Q x (H.set l (.list xs))): Cal w B d (.builtin "list.pop") [.ref l, .int 0] H Q := by
 intro s vs r A fr E Q' a S K
 obtain ⟨uu, uu, rfl, r1, r⟩ := r.icons
 obtain ⟨uu, uu, rfl, r2, r⟩ := r.icons
 obtain rfl := r.inil; obtain rfl := r1.iref; obtain ⟨t, rfl⟩ := r2.iint
 obtain ⟨vals, ⟨n, e⟩, q⟩ := S.rep _ _ hl
 obtain ⟨v, vs, rfl, r1, q⟩ := q.icons
 have hz: (v :: vs).toArray.size ≤ 1000000 := by rw [List.size_toArray, List.length_cons, q.length]; exact hs
 refine call_meets PySem.F.slot_list_pop ⟨_, e, rfl⟩ PySem.F.entry_list_pop (PySem.F.args_list_pop_2 _ _) (PySem.MeetsSeq.list_pop_at l (v :: vs).toArray n 0 t 0 v (by decide) (by unfold seqIndex?; simp) (by simp) (line_of hz)) ⟨e,?_⟩
 obtain ⟨g, S'⟩ := list_upd (ys := xs) (vals' := vs) (f := fun xs => xs.eraseIdxIfInBounds 0) S hl e (by simp) (fun kt => VRs.mono' kt q) s.toks
 exact K _ x _ _ g S' (S.vr g r1) h
theorem setItem_plain {A: Around} {E: Value → Shared → Prop} {s: Shared} {l: Addr} {items: Array Value} {n: Nat} {k: Int} {t: Tok} {v: Value} {Q: Unit → Shared → Prop} (ho: s.heap.get? l = some { cls := .type "list", data := .seq items n })
  (h0: 0 ≤ k) (hfit: k < 2 ^ 63) (hn: k < items.size) (hQ: Q () { s with heap := s.heap.update l (Obj.mapSeq (·.setIfInBounds k.toNat v)) }) :
  wpAny (model prg w) A (setItem (.ref l) (.int k t) v) Q E s := by
 have hl: s.heap.IsList l items := ⟨_, ho, rfl, n, rfl⟩
 unfold setItem
 try with_reducible refine wpAny_holding ?_
 first | refine wpAny_bind (wpAny_pure ?_) | skip
 refine wpAny_bind (wpAny_sequenceKey hl.typeIs (by decide) ?_)
 refine wpAny_bind (wpAny_callSpecial?_slot (name := Str.ofString "__setitem__") hl.typeIs slot_list_setitem
  (wpAny_call_entry slot_list_setitem hl.typeIs entry_list_setitem ?_ (args_list_setitem _ _ _)))
 show wpAny _ _ (Builtin.List.listSubscript? (.int k t) >>= _) _ _ s
 refine wpAny_bind (wpAny_listSubscript_int (fitsIndex_of h0 hfit) ?_)
 clear hfit
 obtain ⟨j, rfl⟩ := Int.eq_ofNat_of_zero_le h0
 have hj: j < items.size := by lia
 have hx': items[j]? = some items[j] := Array.getElem?_eq_getElem hj
 show wpAny _ _ ((seqItemAt l j >>= fun r => pure (r.map (j, ·))) >>= _) _ _ s
 refine wpAny_bind (wpAny_bind (wpAny_seqItemAt ho rfl (wpAny_pure ?_)))
 rw [hx']
 show wpAny _ _ (setSeqItemAt l j v >>= _) _ _ s
 refine wpAny_bind (wpAny_setSeqItemAt ho rfl ?_)
 first
  | exact wpAny_bind (wpAny_pure (wpAny_pure ⟨.none, rfl, wpAny_pure hQ⟩))
  | exact wpAny_pure ⟨.none, rfl, wpAny_pure hQ⟩
theorem VRs.set {h: Heap} {v: Value} {x: V} {vs: List Value} {xs: List V} (j: Nat) (r: VRs h vs xs) (rv: VR h v x): VRs h (vs.set j v) (xs.set j x) :=
 VRs.elim (P := fun vs xs => ∀ j, VRs h (vs.set j v) (xs.set j x)) (fun uu => .nil) (fun a b ih j => by
  cases j with
  | zero => exact .cons rv b
  | succ j => exact .cons a (ih j)) r j
theorem Ex.assign_sub {Qp: Post} {X: MH → Prop} {o i value: Expr} {pos' pos: Pos}
  (h: Ev w B env d value ρ H fun v H1 => Ev w B env d o ρ H1 fun ov H2 => Ev w B env d i ρ H2 fun iv H3 =>
   (∃ l xs j, ov = .ref l ∧ H3.o l = some (.list xs) ∧ iv = .int (j: Nat) ∧ j < xs.length ∧ j < 1000000 ∧ Qp .next ρ (H3.set l (.list (xs.set j v)))) ∨
   (∃ a p m c, ov = .ref a ∧ H3.o a = some (.poly p) ∧ p.length ≤ 1000000 ∧ iv = mv m ∧ v = rv c ∧ Qp .next ρ (H3.set a (.poly (pput p m c)))))
  (hs: swapsWith value (some (.Subscript o i pos')) pos.line env = pure false := by rfl): Ex w B env d (.Assign [.Subscript o i pos'] value pos) ρ H Qp X := by
 intro A fr s E Q' a hE S W K KX
 refine wpAny_Assign_Subscript (h A fr s E _ a S W fun v1 x H1 s1 g1 S1 r1 q1 => q1 A fr s1 E _ a S1 (W.gr S g1) fun v2 y H2 s2 g2 S2 r2 q2 => q2 A fr s2 E _ a S2 ((W.gr S g1).gr S1 g2) fun v3 z H3 s3 g3 S3 r3 q3 => ?_) hs
 have W3 := ((W.gr S g1).gr S1 g2).gr S2 g3
 have g := (g1.trans g2).trans g3
 rcases q3 with ⟨l, xs, j, e1, hl, e2, hj, hj2, q⟩ | ⟨l, p, m, c, e1, hl, hp, e2, e3, q⟩
 ·subst e1; subst e2
  obtain rfl := r2.iref; obtain ⟨t, rfl⟩ := r3.iint
  obtain ⟨vals, ⟨n, e⟩, qq⟩ := S3.rep _ _ hl
  have r1': VR s3.heap v1 x := S2.vr g3 (S1.vr g2 r1)
  refine setItem_plain e (by lia) (by lia) (by rw [List.size_toArray, qq.length]; lia) ?_
  rw [Int.toNat_natCast]
  obtain ⟨g', S'⟩ := list_upd (ys := xs.set j x) (vals' := vals.set j v1) (f := fun xs => xs.setIfInBounds j v1) S3 hl e (by simp) (fun kt => VRs.mono' kt (VRs.set j qq r1')) s3.toks
  exact K _ .next _ _ _ (g.trans g').up S' (W3.gr S3 g') .next q
 ·subst e1; subst e2; subst e3
  obtain rfl := r2.iref
  have r1': VR s3.heap v1 (rv c) := S2.vr g3 (S1.vr g2 r1)
  exact setItem_poly a S3 hl hp r3 r1' fun s' g' S' => K _ .next _ _ _ (g.trans g').up S' (W3.gr S3 g') .next q
theorem Cal.dpop {a: Addr} {p: PL} {m: Mon} {c: Rt} (ha: H.o a = some (.poly p)) (hl: p.length ≤ 1000000) (hc: pget p m = some c) (h: Q (rv c) (H.set a (.poly (pdel p m)))): Cal w B d (.builtin "dict.pop") [.ref a, mv m] H Q := by
 intro s vs r A fr E Q' A' S K
 obtain ⟨uu, uu, rfl, r1, r⟩ := r.icons
 obtain ⟨uu, uu, rfl, r2, r⟩ := r.icons
 obtain rfl := r.inil; obtain rfl := r1.iref
 obtain ⟨k, rfl, hk⟩ := key_of (w := w) r2
 obtain ⟨xs, hm, rs⟩ := S.poly ha
 refine wpAny_call_entry F.slot_dict_pop hm.typeIs F.entry_dict_pop ?_ (F.args_dict_pop_2 _ _)
 unfold Builtin.«dict.pop»
 refine wpAny_bind ?_
 unfold Builtin.Dict.keyAndDefault
 refine wpAny_bind (wpAny_notOrdered_dict hm.typeIs (show wpAny _ _ (pure (a, Value.ref k, none)) _ _ s from wpAny_pure ?_))
 obtain ⟨o, es, ep, ho, hc', hdat, he, his, hn⟩ := dcases hm
 have hsz := size_of_entries he
 have hlx := rs.length
 rcases all2_get (m := m) rs with ⟨uu, h2⟩ | ⟨q, c', h1, h2, hv⟩
 ·exact snF (hc.symm.trans h2)
 obtain rfl := Option.some.inj (hc.symm.trans h2)
 have hne: es.isEmpty = false := by
  cases q: es.isEmpty with
  | false => rfl
  | true =>
   have: xs = [] := by
    have e0: es = #[] := by simpa using q
    rw [e0] at hsz
    exact List.length_eq_zero_iff.mp (by simpa using hsz.symm)
   subst this; cases h1
 dsimp only
 rw [show (keyPart (Value.ref k)).isSome = false from rfl, if_neg (by decide)]
 refine wpAny_bind (wpAny_dictEntries ho hdat (wpAny_bind (wpAny_pure ?_)))
 rw [hne, if_neg (by decide)]
 refine wpAny_bind (takeOut_poly (by rw [Around.in1_units]; have := A'.units; simp only [cLine]; lia) hm (by rw [hlx]; exact hl) hk (fun hno => by exact snF (h1.symm.trans hno)) fun e q' h' t hq ev hd' sb => ?_)
 obtain rfl := Option.some.inj (h1.symm.trans hq)
 simp only [Option.isNone_some, Bool.false_eq_true, if_false]
 refine wpAny_bind (wpAny_letGo (wpAny_pure ⟨e.val, rfl,?_⟩))
 have g: Gr NoX H s (H.set a (.poly (pdel p m))) { s with heap := h', toks := t } := Gr.upd ha sb
 refine K _ (rv c) _ _ g (S.upd ha sb fun kt => ⟨_, hd', all2_del (rs.mono fun uu uu q => ⟨q.1, VR.mono' kt q.2.1, VR.mono' kt q.2.2⟩)⟩) (S.vr g (by rw [ev]; exact hv)) h
theorem pdel_none {p: PL} {m: Mon} (h: pget p m = none): pdel p m = p := by
 unfold pget at h
 rw [Option.map_eq_none_iff, List.find?_eq_none] at h
 exact List.filter_eq_self.mpr fun x hx => by simpa using h x hx
theorem Cal.dpop_none {a: Addr} {p: PL} {m: Mon} (ha: H.o a = some (.poly p)) (hl: p.length ≤ 1000000) (h: ∀ v, Q v (H.set a (.poly (pdel p m)))) (h0: pget p m = none → Q .none H): Cal w B d (.builtin "dict.pop") [.ref a, mv m, .none] H Q := by
 intro s vs r A fr E Q' A' S K
 obtain ⟨uu, uu, rfl, r1, r⟩ := r.icons
 obtain ⟨uu, uu, rfl, r2, r⟩ := r.icons
 obtain ⟨uu, uu, rfl, r3, r⟩ := r.icons
 obtain rfl := r.inil; obtain rfl := r1.iref; obtain rfl := r3.inone
 obtain ⟨k, rfl, hk⟩ := key_of (w := w) r2
 obtain ⟨xs, hm, rs⟩ := S.poly ha
 refine wpAny_call_entry F.slot_dict_pop hm.typeIs F.entry_dict_pop ?_ (F.args_dict_pop_3 _ _ _)
 unfold Builtin.«dict.pop»
 refine wpAny_bind ?_
 unfold Builtin.Dict.keyAndDefault
 refine wpAny_bind (wpAny_notOrdered_dict hm.typeIs (show wpAny _ _ (pure (a, Value.ref k, some Value.none)) _ _ s from wpAny_pure ?_))
 obtain ⟨o, es, ep, ho, hc', hdat, he, his, hn⟩ := dcases hm
 have hsz := size_of_entries he
 have hlx := rs.length
 dsimp only
 rw [show (keyPart (Value.ref k)).isSome = false from rfl, if_neg (by decide)]
 refine wpAny_bind (wpAny_dictEntries ho hdat (wpAny_bind (wpAny_pure ?_)))
 have fin0: atKey xs (mk m) = none → ∀ t, Q' .none { s with toks := t } := fun hno t => by
  refine K _ .none H _ (Gr.tok _) (S.tok _) .none (h0 ?_)
  rcases all2_get (m := m) rs with ⟨uu, h2⟩ | ⟨q, c', h1, h2, hv⟩
  ·exact h2
  ·exact snF (h1.symm.trans hno)
 by_cases he0: es.isEmpty = true
 ·rw [he0, if_pos rfl]
  have hno: atKey xs (mk m) = none := by
   have e0: es = #[] := by simpa using he0
   rw [e0] at hsz
   have: xs = [] := List.length_eq_zero_iff.mp (by simpa using hsz.symm)
   subst this; rfl
  refine wpAny_bind (wpAny_rule (wpAny_bind (wpAny_pure ?_)))
  simp only [Option.isNone_none, if_true]
  refine wpAny_bind (wpAny_missedRemoval_other (S.nsys ha) (wpAny_bind (wpAny_rule (wpAny_pure ⟨_, rfl,?_⟩))))
  exact fin0 hno _
 ·rw [if_neg he0]
  refine wpAny_bind (takeOut_poly (by rw [Around.in1_units]; have := A'.units; simp only [cLine]; lia) hm (by rw [hlx]; exact hl) hk (fun hno t => ?_) fun e q' h' t hq ev hd' sb => ?_)
  ·simp only [Option.isNone_none, if_true]
   refine wpAny_bind (wpAny_missedRemoval_other (S.nsys ha) (wpAny_bind (wpAny_rule (wpAny_pure ⟨_, rfl,?_⟩))))
   exact fin0 hno _
  ·simp only [Option.isNone_some, Bool.false_eq_true, if_false]
   refine wpAny_bind (wpAny_letGo (wpAny_pure ⟨e.val, rfl,?_⟩))
   have g: Gr NoX H s (H.set a (.poly (pdel p m))) { s with heap := h', toks := t } := Gr.upd ha sb
   have hv: ∃ c, VR s.heap q'.2 (rv c) := by
    rcases all2_get (m := m) rs with ⟨h1, uu⟩ | ⟨q, c', h1, h2, hv⟩
    ·exact nsF (h1.symm.trans hq)
    ·obtain rfl := Option.some.inj (h1.symm.trans hq); exact ⟨c', hv⟩
   obtain ⟨c, hv⟩ := hv
   exact K _ (rv c) _ _ g (S.upd ha sb fun kt => ⟨_, hd', all2_del (rs.mono fun uu uu q => ⟨q.1, VR.mono' kt q.2.1, VR.mono' kt q.2.2⟩)⟩) (S.vr g (by rw [ev]; exact hv)) (h _)
end
end Mine.Internal
end
section
open PySem PySem.W PySem.Calls PyProof.Rows
namespace Mine.Internal
section
variable {w: World} {B: Heap} {fr: List Env} {env: Env} {H: MH} {d: Nat} {ρ: Rho} {Q: V → MH → Prop}
theorem Ev.dict1 {k v: Expr} {pos: Pos}
  (h: ∀ n, H.o n = none → Ev w B env d k ρ (H.set n (.poly [])) fun kv H1 => Ev w B env d v ρ H1 fun vv H2 => ∃ m c, kv = mv m ∧ vv = rv c ∧ H2.o n = some (.poly []) ∧ Q (.ref n) (H2.set n (.poly [(m, c)]))) :
  Ev w B env d (.Dict [some k] [v] pos) ρ H Q := by
 intro A fr s E Q' a S W K
 refine wpAny_Dict_any rfl rfl (by simp) (by simp) ?_
 have kp := Keep.push s.heap { cls := .type "dict", data := .dict #[] }
 refine genE_ s.heap.objs.size ?_
 intro D hD
 have S0: HS w B fr (H.set D (.poly [])) { s with heap := s.heap.push { cls := .type "dict", data := .dict #[] } } := S.new (t := s.toks) kp (by simp) (by lia) ⟨[], hD ▸ Heap.DictOfH.new _, .nil⟩
 have g0: Gr NoX H s (H.set D (.poly [])) { s with heap := s.heap.push { cls := .type "dict", data := .dict #[] } } := Gr.new (t := s.toks) kp (by simp) (by lia)
 refine evalPairs_cons ?_
 refine h D (hD ▸ S.fresh) A fr _ E _ a S0 (W.gr S g0) fun v1 x H1 s1 g1 S1 r1 q1 => ?_
 refine wpAny_bind ?_
 refine q1 A fr s1 E _ a S1 ((W.gr S g0).gr S0 g1) fun v2 y H2 s2 g2 S2 r2 zz => ?_
 obtain ⟨m, c, e1, e2, ho, q⟩ := zz
 subst e1; subst e2
 refine wpAny_bind (wpAny_standAt (wpAny_pure (evalPairs_nil ?_)))
 obtain ⟨xs, hm, rs⟩ := S2.poly ho
 cases rs
 show wpAny _ _ (storeAll D [(v1, v2)]) _ _ _
 unfold storeAll
 simp only [List.forIn_cons, List.forIn_nil]
 refine wpAny_bind (wpAny_bind ?_)
 refine dictSet_poly (c := c) a hm .nil (by simp) (S1.vr g2 r1) fun h' t ys sb hd hr => ?_
 refine wpAny_pure (wpAny_pure ?_)
 have g3: Gr NoX H2 s2 (H2.set D (.poly [(m, c)])) { s2 with heap := h', toks := t } := Gr.upd ho sb
 exact K _ (.ref D) _ _ (((g0.trans g1).trans g2).trans g3) (S2.upd ho sb fun kt => ⟨ys, hd, hr kt r2⟩) (.ref D) q
theorem Ev.and3 {x y z: Expr} {pos: Pos} (h: Ev w B env d x ρ H fun v H1 => Tt w B d v H1 fun b H2 => if b then Ev w B env d y ρ H2 (fun v H3 => Tt w B d v H3 fun b H4 => if b then Ev w B env d z ρ H4 Q else Q v H4) else Q v H2): Ev w B env d (.BoolOp .And [x, y, z] pos) ρ H Q := by
 intro A fr s E Q' a S W K
 show wpAny _ A (do
  let v ← eval x env
  standAt pos
  let t ← holding [v] (truthy v)
  match BoolOp.And, t with
  | .And, false | .Or, true => pure v
  | _, _ => eval (.BoolOp .And [y, z] pos) env) Q' E s
 refine wpAny_bind (h A fr s E _ a S W fun v1 u H1 s1 g1 S1 r1 q1 => wpAny_bind (wpAny_standAt (wpAny_bind (wpAny_holding (q1 A fr s1 v1 E _ a S1 r1 fun b H2 s2 g2 S2 q2 => ?_)))))
 cases b with
 | false => exact wpAny_pure (K _ _ _ _ (g1.trans g2) S2 (S1.vr g2 r1) q2)
 | true => exact Ev.and2 q2 A fr s2 E Q' a S2 ((W.gr S g1).gr S1 g2) fun v z H3 s3 g3 S3 r3 q3 => K v z H3 s3 ((g1.trans g2).trans g3) S3 r3 q3
theorem VRs.of_get {h: Heap} {vs: List Value} {xs: List V} (hl: vs.length = xs.length) (hi: ∀ (i: Nat) v x, vs[i]? = some v → xs[i]? = some x → VR h v x): VRs h vs xs := by
 induction vs generalizing xs with
 | nil => obtain rfl := List.eq_nil_of_length_eq_zero hl.symm; exact .nil
 | cons v vs ih =>
  obtain ⟨x, xs, rfl⟩ := List.exists_cons_of_length_eq_add_one hl.symm
  exact .cons (hi 0 v x rfl rfl) (ih (Nat.succ.inj hl) fun i v x h1 h2 => hi (i + 1) v x h1 h2)
theorem boot_list': bootBuiltins "list" = some (.type "list") := by boot_fast
theorem Ev.list_range {lp np p pos: Pos} {e1 e2: Expr} (D: Wd w B) (hf: nsIn (Internal.heapK w.params) mainGlobals "list" = some none) (hg: nsIn (Internal.heapK w.params) mainGlobals "range" = some none)
  (h: Ev w B env d e1 ρ H fun u H1 => Ev w B env d e2 ρ H1 fun v H2 => ∃ i j: Nat, i ≤ j ∧ j ≤ 1000000 ∧ u = .int i ∧ v = .int j ∧ ∀ n, H2.o n = none → Q (.ref n) (H2.set n (.list ((rangeV j).drop i))))
  (hx: env.kindOf "list" = some .globalImplicit := by rfl) (hy: env.kindOf "range" = some .globalImplicit := by rfl) (hp: [e1, e2].all noStar = true := by rfl) :
  Ev w B env d (.Call (.Name "list" lp) [.Call (.Name "range" np) [e1, e2] [] p] [] pos) ρ H Q := by
 intro A fr s E Q' a S W K
 have hp' := Bool.and_eq_true_iff.mp hp
 have hEvs: Evs w B env d [e1, e2] ρ H fun vs H2 => ∃ i j: Nat, i ≤ j ∧ j ≤ 1000000 ∧ vs = [.int i, .int j] ∧ ∀ n, H2.o n = none → Q (.ref n) (H2.set n (.list ((rangeV j).drop i))) :=
  h.mono fun u H1 q1 => q1.mono fun v H2 zz => by obtain ⟨i, j, h1, h2, e1, e2, q⟩ := zz; exact ⟨i, j, h1, h2, by rw [e1, e2], q⟩
 refine wpAny_Call_ofName (builtin_raw D S.base W hf boot_list' (by decide) hx (callWith_type1 (args_cons ?_ rfl) rfl rfl) (by decide))
 refine wpAny_Call_ofName (builtin_raw D S.base W hg boot_range (by decide) hy (callWith_type1 (Evs.run hp hEvs a S W fun vals vs H2 s2 g2 S2 r zz => ?_) (starEach_plain hp'.1) (starEach_any hp'.2)) (by decide))
 obtain ⟨i, j, hij, hj, ev, q⟩ := zz
 subst ev
 obtain ⟨uu, uu, rfl, r1, r⟩ := r.icons
 obtain ⟨uu, uu, rfl, r2, r⟩ := r.icons
 obtain rfl := r.inil; obtain ⟨t, rfl⟩ := r1.iint
 obtain ⟨t', rfl⟩ := r2.iint
 refine call_range_2 (args_nil ?_)
 have kp := Keep.push s2.heap { cls := .type "range", data := .fields #[.int i t, .int j t', .int 1 s2.toks] }
 have hsz: Builtin.Range.rangeSize (i: Int) (j: Int) 1 = ((j - i: Nat): Int) := by rw [rangeSize_one]; split <;> lia
 refine sized (call_list_range a.handled (IsRange.new ..) (small_one (by lia) (by lia) (by lia) (by lia)) hsz (by lia) fun h' tk acc' c' hk hS' hacc hz => ?_)
 have kp': Keep s2.heap h' := Keep.trans kp hk
 have hz1: (s2.heap.push { cls := .type "range", data := .fields #[.int i t, .int j t', .int 1 s2.toks] }).objs.size = s2.heap.objs.size + 1 := Heap.size_push ..
 have hz': s2.heap.objs.size + 1 ≤ h'.objs.size := by rw [← hz1]; exact hz
 rw [hz1]
 rw [hz1] at hS'
 have hacc': VRs h' acc'.toList ((rangeV j).drop i) := by
  refine VRs.of_get (by rw [Array.length_toList, hacc.1, List.length_drop, rangeV_length]) fun k v x h1 h2 => ?_
  rw [Array.getElem?_toList] at h1
  obtain ⟨u, rfl⟩ := hacc.2 k v h1
  rw [List.getElem?_drop] at h2
  obtain ⟨uu, rfl⟩ := rangeV_get h2
  rw [show ((i: Int) + (k: Int) * 1) = ((i + k: Nat): Int) by lia]
  exact .int ..
 refine K _ (.ref (s2.heap.objs.size + 1)) (H2.set (s2.heap.objs.size + 1) (.list ((rangeV j).drop i))) _ (g2.trans (Gr.new (t := tk) kp' (by lia) (Nat.le_succ _))) (S2.new (t := tk) kp' (by lia) (Nat.le_succ _) ⟨acc'.toList, ⟨c', by simpa using hS'⟩, hacc'⟩) (.ref _) (q _ ?_)
 cases q: H2.o (s2.heap.objs.size + 1) with
 | none => rfl
 | some mo => exact absurd (S2.lt _ (by rw [q]; simp)) (Nat.not_lt.mpr (Nat.le_succ _))
end
end Mine.Internal
end
section
open PySem PySem.W PySem.Calls PyProof.Rows
namespace Mine.Internal
section
variable {w: World} {B: Heap} {fr: List Env} {env: Env} {H: MH} {d: Nat} {ρ: Rho} {Q: V → MH → Prop}
theorem walks_keys {A: Around} (hh: A.handled = none) (I a: Addr) (hne: a ≠ I) (es: Array DictEntry) (ep: Nat) :
  Walks prg w A I [I, a] [I] es.size (fun i v => es[i]?.map (·.key) = some v) (fun i h => h.IsKeyIter I a i es.size ep ∧ RawD h a es ep) where
 sub := by simp
 frame := fun i h h' st hk => ⟨st.1.elim fun o r => ⟨o, hk I (by simp) _ r.1, r.2⟩, st.2.elim fun o r => ⟨o, hk a (by simp) _ r.1, r.2⟩⟩
 item := fun i s Q E hi st hQ => by
  refine next_raw st.1 st.2 (Array.getElem?_eq_getElem hi) fun h' it sb => hQ _ h' s.toks (by simp [hi]) ⟨it, st.2.elim fun o r => ⟨o, (sb.2 a hne).trans r.1, r.2⟩⟩ fun b o hb e => (sb.2 b (by simpa using hb)).trans e
 done := fun s Q E st hQ => end_raw hh st.1 st.2 (Nat.le_refl _) fun h' ex => hQ h' s.toks fun b o hb e => ex b o (by simpa using hb) e
 self := fun i s Q E st q => wpAny_pyIter_slot st.1.typeIs F.slot_dict_keyiterator_iter (wpAny_call_entry F.slot_dict_keyiterator_iter st.1.typeIs F.entry_dict_keyiterator_iter (by
   refine wpAny_pure ⟨_, rfl, "dict_keyiterator", _, st.1.typeIs, F.slot_dict_keyiterator_next.lookup, q⟩) (F.args_dict_keyiterator_iter_1 _))
theorem hint_dict {A: Around} {E: Value → Shared → Prop} {s: Shared} {a: Addr} {Q: Bool → Shared → Prop} (hT: s.TypeIs (.ref a) "dict") (h: Q false s): wpAny (model prg w) A (Builtin.List.listLengthHint (.ref a)) Q E s := by
 unfold Builtin.List.listLengthHint
 refine wpAny_bind (wpAny_specialOf hT F.slot_dict_len.lookup ?_)
 generalize hid: ("dict.__len__": String) = id0
 wp_delta
 rw [show splitId id0 = some ("dict", "__len__") from by subst hid; decide +kernel]
 subst hid
 refine wpAny_bind (wpAny_isInstance (T := "dict") (b := true) hT isSubtype_dict_dict ?_)
 refine wpAny_ite_split (fun hab => absurd hab (by decide)) (fun uu => ?_)
 refine wpAny_ite_split (fun uu => ?_) (fun hab => absurd (by decide +kernel) hab)
 refine wpAny_bind (wpAny_typeOf hT ?_)
 exact wpAny_pure h
theorem extend_dict {A: Around} {s: Shared} {R: Result → Shared → Prop} {a: Addr} {es: Array DictEntry} {ep: Nat} (hh: A.handled = none) (hd: (a == sysModules) = false) (raw: RawD s.heap a es ep) (hlen: es.size ≤ 1000000) (S: Addr) (res: Value) (c₀: Nat)
  (hS: s.heap.get? S = some { cls := .type "list", data := .seq #[] c₀ })
  (hR: ∀ h' tk acc' c', (∀ b o, b ≠ S → s.heap.get? b = some o → h'.get? b = some o) → h'.get? S = some { cls := .type "list", dict := none, data := .seq acc' c', slots := #[] } →
   ItemsOf (fun i v => es[i]?.map (·.key) = some v) acc' es.size → R (.ok (.ret res)) { s with heap := h', toks := tk }) :
  wpAny (model prg w) A.in1 (Builtin.List.listExtendWith (.ref S) (.ref a) res)
   (fun fin s' => match fin with | .done f => R (.ok f) s' | .again c' => c'.quiet = true ∧ codeAny (model prg w) A c' R s') (fun e s' => R (.error e) s') s := by
 have hSa: S ≠ a := fun e => by obtain ⟨o, e1, e2, e3⟩ := raw; rw [e, e1] at hS; obtain rfl := Option.some.inj hS; cases e3
 have hSlt: S < s.heap.objs.size := Heap.lt_size hS
 have halt: a < s.heap.objs.size := by obtain ⟨o, e1, uu⟩ := raw; exact Heap.lt_size e1
 have hSI: S ≠ s.heap.objs.size := Nat.ne_of_lt hSlt
 have hSf: S ∉ [s.heap.objs.size, a] := fun hm => by
  rcases List.mem_cons.mp hm with e | e
  ·exact hSI e
  ·exact hSa (List.mem_singleton.mp e)
 have W := (walks_keys (w := w) (A := A.in1) hh s.heap.objs.size a (Nat.ne_of_lt halt) es ep).toS
 have key: ∀ (h: Heap) (c₁ tk: Nat), h.IsKeyIter s.heap.objs.size a 0 es.size ep → RawD h a es ep → (∀ b o, b ≠ S → s.heap.get? b = some o → h.get? b = some o) →
   h.get? S = some { cls := .type "list", data := .seq #[] c₁ } → codeAny (model prg w) A (.builtin "list.extend.loop" ⟨[.ref S, .ref s.heap.objs.size, res], []⟩) R { s with heap := h, toks := tk } := by
  intro h c₁ tk hit raw' hk hS₁
  refine codeAny_extend_loopS W (by rw [sizeLine_eq]; lia) S hSf res es.size 0 _ #[] c₁ rfl (Nat.zero_le _) ⟨hit, raw'⟩ hS₁ (ItemsOf.nil _) fun s' acc' c' hm hS' hacc => ?_
  rw [Moved.eq_with hm]
  refine hR s'.heap s'.toks acc' c' (fun b o hb e => hm.heap b o (fun hmem => ?_) (hk b o hb e)) hS' hacc
  rcases List.mem_cons.mp hmem with e' | hmem
  ·exact hb e'
  ·exact absurd (Heap.lt_size e) (by rw [List.mem_singleton.mp hmem]; exact Nat.lt_irrefl _)
 unfold Builtin.List.listExtendWith
 refine wpAny_bind (wpAny_typeOf (T := "dict") raw.typeIs ?_)
 have h1: Builtin.List.listSameRef (.ref S) (.ref a) = false := by simp [Builtin.List.listSameRef, hSa]
 have h2: (Value.type "dict" == Value.type "list") = false := by decide
 have h3: (Value.type "dict" == Value.type "tuple") = false := by decide
 simp only [h1, h2, h3, Bool.or_false, Bool.false_eq_true, if_false]
 refine wpAny_bind (iter_raw hd raw ?_)
 have raw1: RawD (s.heap.push { cls := .type "dict_keyiterator", data := .fields #[.ref a, .int 0 0, .int es.size 0, .int ep 0] }) a es ep := raw.elim fun o r => ⟨o, Heap.get?_push_of_some _ r.1, r.2⟩
 refine wpAny_bind (wpAny_holding (hint_dict (s := { s with heap := s.heap.push { cls := .type "dict_keyiterator", data := .fields #[.ref a, .int 0 0, .int es.size 0, .int ep 0] } }) raw1.typeIs ?_))
 have hit₁: (s.heap.push { cls := .type "dict_keyiterator", data := .fields #[.ref a, .int 0 0, .int es.size 0, .int ep 0] }).IsKeyIter s.heap.objs.size a 0 es.size ep := ⟨_, Heap.get?_push_size _ rfl, rfl, by simp⟩
 have hS₁ := Heap.get?_push_of_some { cls := .type "dict_keyiterator", data := .fields #[.ref a, .int 0 0, .int es.size 0, .int ep 0] } hS
 refine wpAny_ite_split (fun uu => ?_) (fun hab => absurd (by decide +kernel) hab)
 refine wpAny_bind (wpAny_rule ?_)
 refine wpAny_bind ?_
 show wpAny _ _ (updateSeq S (·.push .none) >>= fun uu => updateSeq S (·.pop)) _ _ _
 refine wpAny_bind (wpAny_updateSeq hS₁ rfl ?_)
 have hS₂ := Heap.get?_update_self (Obj.mapSeq (·.push Value.none)) hS₁ rfl
 refine wpAny_updateSeq (hz := by seq_fits) hS₂ rfl ?_
 have hS₃ := Heap.get?_update_self (Obj.mapSeq (·.pop)) hS₂ rfl
 refine wpAny_pure ⟨plainId_quiet F.plain_extend_loop _, key _ _ _ ?_ ?_ (fun b o hb e => ?_) hS₃⟩
 ·obtain ⟨o, e, r⟩ := hit₁
  exact ⟨o, (Heap.get?_update_other _ _ hSI).trans ((Heap.get?_update_other _ _ hSI).trans e), r⟩
 ·obtain ⟨o, e, r⟩ := raw1
  exact ⟨o, (Heap.get?_update_other _ _ hSa).trans ((Heap.get?_update_other _ _ hSa).trans e), r⟩
 ·exact (Heap.get?_update_other _ _ (Ne.symm hb)).trans ((Heap.get?_update_other _ _ (Ne.symm hb)).trans (Heap.get?_push_of_some _ e))
theorem Cal.list_poly {a: Addr} {p: PL} (ha: H.o a = some (.poly p)) (hl: p.length ≤ 1000000) (h: ∀ n, H.o n = none → Q (.ref n) (H.set n (.list (p.map fun e => mv e.1)))): Cal w B d (.type "list") [.ref a] H Q := by
 intro s vs r A fr E Q' A' S K
 obtain ⟨uu, uu, rfl, r1, r⟩ := r.icons
 obtain rfl := r.inil; obtain rfl := r1.iref
 obtain ⟨xs, hm, rs⟩ := S.poly ha
 obtain ⟨o, es, ep, ho, hc, hdat, he, his, hn⟩ := dcases hm
 have hsz := size_of_entries he
 have hlx := rs.length
 have hne: a ≠ s.heap.objs.size := Nat.ne_of_lt (Heap.lt_size ho)
 refine sized (callType_codes (Q₁ := fun obj s₁ => obj = .ref s.heap.objs.size ∧ s₁ = { s with heap := s.heap.push { cls := .type "list", data := .seq #[] } }) F.called_list (F.typeCall_list_1 _) F.entry_list_init
  (code_list_new _ ⟨rfl, rfl⟩) fun obj s₁ h₁ => ?_)
 obtain ⟨rfl, rfl⟩ := h₁
 have hS: (s.heap.push { cls := .type "list", data := .seq #[] }).get? s.heap.objs.size = some { cls := .type "list", data := .seq #[] } := Heap.get?_push_size _ rfl
 refine ⟨⟨_, hS, rfl⟩, F.args_list_init_2 _ _,?_⟩
 show wpAny _ _ (do let old ← Builtin.List.listItems (.ref s.heap.objs.size); Builtin.List.listUpdate (.ref s.heap.objs.size) (fun uu => #[]); letGo old.toList.reverse; Builtin.List.listExtendWith (.ref s.heap.objs.size) (.ref a) .none) _ _ _
 refine wpAny_bind ?_
 unfold Builtin.List.listItems
 refine wpAny_bind (wpAny_seqItems hS rfl (wpAny_pure ?_))
 show wpAny _ _ (updateSeq s.heap.objs.size (fun uu => #[]) >>= fun uu => letGo (#[]: Array Value).toList.reverse >>= fun uu => Builtin.List.listExtendWith (.ref s.heap.objs.size) (.ref a) .none) _ _ _
 refine wpAny_bind (wpAny_updateSeq hS rfl ?_)
 have hS₂ := Heap.get?_update_self (Obj.mapSeq (fun uu => (#[]: Array Value))) hS rfl
 refine wpAny_bind (wpAny_letGo ?_)
 have kp: ∀ b o, s.heap.get? b = some o → ((s.heap.push { cls := .type "list", data := .seq #[] }).update s.heap.objs.size (Obj.mapSeq (fun uu => (#[]: Array Value)))).get? b = some o := fun b o e =>
  (Heap.get?_update_other _ _ (fun q => by subst q; exact Nat.lt_irrefl _ (Heap.lt_size e))).trans (Heap.get?_push_of_some _ e)
 refine extend_dict (A := A.in1) A'.handled (S.nsys ha) ⟨o, kp _ _ ho, hc, hdat⟩ (by rw [hsz, hlx]; exact hl) _ _ _ hS₂ fun h' tk acc' c' hk hS' hacc => ?_
 refine ⟨rfl, fun hz => ?_⟩
 have kp': Keep s.heap h' := fun b o e => hk b o (Nat.ne_of_lt (Heap.lt_size e)) (kp b o e)
 refine K (.ref s.heap.objs.size) (.ref s.heap.objs.size) (H.set s.heap.objs.size (.list (p.map fun e => mv e.1))) _ (Gr.new (t := tk) kp' hz (Nat.le_refl _)) (S.new (t := tk) kp' hz (Nat.le_refl _) ⟨acc'.toList, ⟨c', by simpa using hS'⟩,?_⟩) (.ref _) (h _ S.fresh)
 refine VRs.of_get (by rw [Array.length_toList, hacc.1, List.length_map, hsz, hlx]) fun k v x h1 h2 => ?_
 rw [Array.getElem?_toList] at h1
 have h3 := hacc.2 k v h1
 rw [List.getElem?_map] at h2
 cases hpk: p[k]? with
 | none => rw [hpk] at h2; cases h2
 | some m =>
  rw [hpk] at h2; cases h2
  obtain ⟨y, hy, ry⟩ := rs.get hpk
  rw [entry_at he k, hy] at h3
  cases h3
  exact VR.mono' (Keep.tup kp') ry.2.2
end
end Mine.Internal
end
section
namespace Mine.Internal
noncomputable abbrev Mo := Nat × Nat
noncomputable abbrev Po := List (Mo × Rat)
noncomputable def pg (p: Po) (m: Mo): Option Rat := (p.find? fun e => decide (e.1 = m)).map (·.2)
noncomputable def pp (p: Po) (m: Mo) (c: Rat): Po := if (pg p m).isSome then p.map (fun e => if e.1 = m then (e.1, c) else e) else p ++ [(m, c)]
noncomputable def pd (p: Po) (m: Mo): Po := p.filter fun e => decide (e.1 ≠ m)
noncomputable def tot (p: Po) (m: Mo) (c: Rat): Rat := match pg p m with
 | some q => q + c
 | none => c
noncomputable def addT (p: Po) (m: Mo) (c: Rat): Po := if tot p m c = 0 then pd p m else pp p m (tot p m c)
noncomputable def addL (a b: Po): Po := b.foldl (fun acc e => addT acc e.1 e.2) a
noncomputable def negP (a: Po): Po := a.map fun e => (e.1, -e.2)
noncomputable def subP (a b: Po): Po := addL a (negP b)
noncomputable def scaleP (a: Po) (r: Rat): Po := if r = 0 then [] else a.map fun e => (e.1, e.2 * r)
noncomputable def mP (a b: Mo): Mo := (a.1 + b.1, a.2 + b.2)
noncomputable def mM (a b: Mo): Mo := (a.1 - b.1, a.2 - b.2)
noncomputable def mjoin (a b: Mo): Mo := (max a.1 b.1, max a.2 b.2)
noncomputable def mmeet (a b: Mo): Mo := (min a.1 b.1, min a.2 b.2)
noncomputable def mdiv (a b: Mo): Bool := decide (a.1 ≤ b.1) && decide (a.2 ≤ b.2)
noncomputable def apart (a b: Mo): Bool := decide ((mmeet a b).1 + (mmeet a b).2 = 0)
noncomputable def shiftP (a: Po) (u: Mo) (r: Rat): Po := if r = 0 then [] else a.map fun e => (mP e.1 u, e.2 * r)
noncomputable def prods (a b: Po): Po := b.flatMap fun e => a.map fun e' => (mP e'.1 e.1, e'.2 * e.2)
noncomputable def mulP (a b: Po): Po := addL [] (prods a b)
inductive Od where
 | lex | grlex | grevlex
noncomputable def ltM (o: Od) (a b: Mo): Bool := match o with
 | .lex => decide (a.1 < b.1) || (decide (a.1 = b.1) && decide (a.2 < b.2))
 | .grlex => decide (a.1 + a.2 < b.1 + b.2) || (decide (a.1 + a.2 = b.1 + b.2) && (decide (a.1 < b.1) || (decide (a.1 = b.1) && decide (a.2 < b.2))))
 | .grevlex => decide (a.1 + a.2 < b.1 + b.2) || (decide (a.1 + a.2 = b.1 + b.2) && (decide (b.2 < a.2) || (decide (a.2 = b.2) && decide (b.1 < a.1))))
noncomputable def better (o: Od) (best: Option (Mo × Rat)) (e: Mo × Rat): Option (Mo × Rat) := match best with
 | none => some e
 | some b => if ltM o b.1 e.1 then some e else some b
noncomputable def lead (o: Od) (p: Po): Option (Mo × Rat) := p.foldl (better o) none
noncomputable def monicP (o: Od) (p: Po): Po := match lead o p with
 | none => []
 | some l => scaleP p l.2⁻¹
noncomputable def hits (m: Mo) (l: Option (Mo × Rat)): Bool := match l with
 | none => false
 | some l => mdiv l.1 m
noncomputable def fstDiv (m: Mo) (leads: List (Option (Mo × Rat))): Option Nat := leads.findIdx? (hits m)
noncomputable def SzB (q: Rat): Prop := ∃ s, s ≤ 67000000 ∧ q.num.natAbs ≤ 2 ^ s ∧ q.den ≤ 2 ^ s
noncomputable def Wf (p: Po): Prop := (p.map (·.1)).Nodup ∧ ∀ e ∈ p, e.2 ≠ 0
structure OkP (p: Po): Prop where
 wf: Wf p
 sz: ∀ e ∈ p, SzB e.2
 box: ∀ e ∈ p, e.1.1 ≤ 200 ∧ e.1.2 ≤ 200
 len: p.length ≤ 100000
structure DSt where
 qs: List Po
 rest: Po
 left: Po
inductive DStep (o: Od) (some_: List Po) (leads: List (Option (Mo × Rat))): DSt → DSt → Prop
 | out {st: DSt} {m: Mo} {c: Rat}: lead o st.left = some (m, c) → fstDiv m leads = none → DStep o some_ leads st ⟨st.qs, pp st.rest m c, pd st.left m⟩
 | via {st: DSt} {m: Mo} {c: Rat} {i: Nat} {l: Mo} {lc: Rat} {b q: Po}: lead o st.left = some (m, c) → fstDiv m leads = some i → leads[i]? = some (some (l, lc)) → lc ≠ 0 → SzB lc → some_[i]? = some b → st.qs[i]? = some q →
   OkP b → OkP q → OkP (shiftP b (mM m l) (c / lc)) → SzB (c / lc) →
   DStep o some_ leads st ⟨st.qs.set i (addT q (mM m l) (c / lc)), st.rest, subP st.left (shiftP b (mM m l) (c / lc))⟩
inductive DRun (o: Od) (some_: List Po) (leads: List (Option (Mo × Rat))): Nat → DSt → DSt → Prop
 | stop {st: DSt}: st.left = [] → DRun o some_ leads 0 st st
 | step {n: Nat} {st st' fin: DSt}: OkP st.left → OkP st.rest → DStep o some_ leads st st' → DRun o some_ leads n st' fin → DRun o some_ leads (n + 1) st fin
noncomputable def Div (o: Od) (f: Po) (some_: List Po) (fin: DSt): Prop :=
 OkP f ∧ (∀ p ∈ some_, OkP p) ∧ ∃ n, DRun o some_ (some_.map (lead o)) n ⟨some_.map fun uu => [], [], f⟩ fin
noncomputable def spoly (f g: Po) (lf lg: Mo × Rat): Po :=
 subP (shiftP f (mM (mjoin lf.1 lg.1) lf.1) lf.2⁻¹) (shiftP g (mM (mjoin lf.1 lg.1) lg.1) lg.2⁻¹)
noncomputable abbrev Pr := Nat × Nat
noncomputable def ltK (o: Od) (a b: Mo × Pr): Bool := ltM o a.1 b.1 || (decide (a.1 = b.1) && (decide (a.2.1 < b.2.1) || (decide (a.2.1 = b.2.1) && decide (a.2.2 < b.2.2))))
noncomputable def leadAt (leads: List Mo) (i: Nat): Mo := leads.getD i (0, 0)
noncomputable def pkey (leads: List Mo) (p: Pr): Mo × Pr := (mjoin (leadAt leads p.1) (leadAt leads p.2), p)
noncomputable def lessP (o: Od) (leads: List Mo) (best: Option Pr) (p: Pr): Option Pr := match best with
 | none => some p
 | some b => if ltK o (pkey leads p) (pkey leads b) then some p else some b
noncomputable def leastP (o: Od) (leads: List Mo) (waiting: List Pr): Option Pr := waiting.foldl (lessP o leads) none
noncomputable def srt (i j: Nat): Pr := (min i j, max i j)
noncomputable def chained (p: Pr) (waiting: List Pr) (j: Mo) (at_: Nat) (m: Mo): Bool :=
 !(p.1 == at_ || p.2 == at_) && mdiv m j && (!waiting.contains (srt p.1 at_) && !waiting.contains (srt p.2 at_))
noncomputable def anyAt (t: Nat → Mo → Bool): Nat → List Mo → Bool
 | _, [] => false
 | i, m :: r => t i m || anyAt t (i + 1) r
noncomputable def needless (p: Pr) (waiting: List Pr) (leads: List Mo): Bool :=
 apart (leadAt leads p.1) (leadAt leads p.2) || anyAt (chained p waiting (mjoin (leadAt leads p.1) (leadAt leads p.2))) 0 leads
structure GSt where
 basis: List Po
 leads: List Mo
 waiting: List Pr
 done: Nat
noncomputable def rem1 (w: List Pr) (p: Pr): List Pr := w.filter fun q => decide (q ≠ p)
noncomputable def pairsTo (n: Nat): List Pr := (List.range n).map fun i => (i, n)
noncomputable def pairs0 (n: Nat): List Pr := (List.range n).flatMap pairsTo
inductive GStep (o: Od) (most: Nat): GSt → GSt → Prop
 | skip {st: GSt} {p: Pr}: leastP o st.leads st.waiting = some p → needless p (rem1 st.waiting p) st.leads = true → GStep o most st { st with waiting := rem1 st.waiting p }
 | zero {st: GSt} {p: Pr} {f g: Po} {lf lg: Mo × Rat} {fin: DSt}: leastP o st.leads st.waiting = some p → needless p (rem1 st.waiting p) st.leads = false → st.done + 1 ≤ most → st.basis[p.1]? = some f → st.basis[p.2]? = some g →
   lead o f = some lf → lead o g = some lg → OkP f → OkP g → OkP (shiftP f (mM (mjoin lf.1 lg.1) lf.1) lf.2⁻¹) → OkP (shiftP g (mM (mjoin lf.1 lg.1) lg.1) lg.2⁻¹) →
   Div o (spoly f g lf lg) st.basis fin → fin.rest = [] → GStep o most st { st with waiting := rem1 st.waiting p, done := st.done + 1 }
 | grow {st: GSt} {p: Pr} {f g: Po} {lf lg lr: Mo × Rat} {fin: DSt}: leastP o st.leads st.waiting = some p → needless p (rem1 st.waiting p) st.leads = false → st.done + 1 ≤ most → st.basis[p.1]? = some f → st.basis[p.2]? = some g →
   lead o f = some lf → lead o g = some lg → OkP f → OkP g → OkP (shiftP f (mM (mjoin lf.1 lg.1) lf.1) lf.2⁻¹) → OkP (shiftP g (mM (mjoin lf.1 lg.1) lg.1) lg.2⁻¹) →
   Div o (spoly f g lf lg) st.basis fin → lead o fin.rest = some lr → OkP fin.rest → GStep o most st ⟨st.basis ++ [monicP o fin.rest], st.leads ++ [lr.1], rem1 st.waiting p ++ pairsTo st.basis.length, st.done + 1⟩
inductive GRun (o: Od) (most: Nat): Nat → GSt → Option (List Po) → Prop
 | stop {st: GSt}: st.waiting = [] → GRun o most 0 st (some st.basis)
 | limit {st: GSt} {p: Pr}: leastP o st.leads st.waiting = some p → needless p (rem1 st.waiting p) st.leads = false → most < st.done + 1 → GRun o most 0 st none
 | step {n: Nat} {st st': GSt} {r: Option (List Po)}: GStep o most st st' → GRun o most n st' r → GRun o most (n + 1) st r
end Mine.Internal
end
section
namespace Mine.Internal
theorem fdiv_divInt (a b: Int) (hb: b ≠ 0): (Rat.divInt a b).num = a.fdiv (if 0 < b then (Nat.gcd a.natAbs b.natAbs: Int) else 0 - (Nat.gcd a.natAbs b.natAbs: Int)) ∧ ((Rat.divInt a b).den: Int) = b.fdiv (if 0 < b then (Nat.gcd a.natAbs b.natAbs: Int) else 0 - (Nat.gcd a.natAbs b.natAbs: Int)) := by
 have hg: b.gcd a = Nat.gcd a.natAbs b.natAbs := by rw [Int.gcd_comm]; rfl
 rw [Rat.num_divInt, Rat.den_divInt, if_neg hb, hg]
 generalize hG: Nat.gcd a.natAbs b.natAbs = g
 have hgp: 0 < g := by rw [← hG]; exact Nat.gcd_pos_of_pos_right _ (by omega)
 by_cases h: 0 < b
 ·rw [if_pos h, Int.sign_eq_one_of_pos h, Int.one_mul, Int.fdiv_eq_ediv_of_nonneg _ (by omega), Int.fdiv_eq_ediv_of_nonneg _ (by omega)]
  refine ⟨rfl,?_⟩
  rw [Int.natCast_ediv]; congr 1; omega
 ·rw [if_neg h, Int.sign_eq_neg_one_of_neg (by omega)]
  have e: ∀ x: Int, x.fdiv (0 - (g: Int)) = (-x) / (g: Int) := fun x => by
   have: x.fdiv (0 - (g: Int)) = (-(-x)).fdiv (-(g: Int)) := by rw [Int.neg_neg, Int.zero_sub]
   rw [this, Int.neg_fdiv_neg, Int.fdiv_eq_ediv_of_nonneg _ (by omega)]
  rw [e, e]
  refine ⟨by congr 1; omega,?_⟩
  rw [Int.natCast_ediv]; congr 1; omega
theorem gcd_turn (n m: Nat): Nat.gcd m (n % m) = Nat.gcd n m := by
 rw [Nat.gcd_comm n m, Nat.gcd_rec m n, Nat.gcd_comm]
theorem radd_eq (a b: Rat): Rat.divInt (a.num * b.den + b.num * a.den) (a.den * b.den) = a + b := by
 rw [Rat.add_def', ← Rat.divInt_ofNat]; congr 1
theorem rmul_eq (a b: Rat): Rat.divInt (a.num * b.num) (a.den * b.den) = a * b := by
 rw [Rat.mul_def', ← Rat.divInt_ofNat]; congr 1
theorem rinv_eq (a: Rat): Rat.divInt a.den a.num = a⁻¹ := by
 conv => rhs; rw [← Rat.num_divInt_den a]
 rw [Rat.inv_divInt]
theorem rdiv_eq (a b: Rat): Rat.divInt (a.num * b.den) (a.den * b.num) = a / b := by
 rw [Rat.div_def, ← rinv_eq b]
 conv => rhs; rw [← Rat.num_divInt_den a]
 rw [Rat.divInt_mul_divInt]
theorem num_ne {a: Rat} (h: a ≠ 0): a.num ≠ 0 := by
 rw [ne_eq, Rat.num_eq_zero]; exact h
theorem den_ne (a: Rat): (a.den: Int) ≠ 0 := by have := a.den_nz; omega
noncomputable def Sz (s: Nat) (q: Rat): Prop := q.num.natAbs ≤ 2 ^ s ∧ q.den ≤ 2 ^ s
theorem Sz.mono {s t: Nat} {q: Rat} (h: Sz s q) (hst: s ≤ t): Sz t q :=
 have := Nat.pow_le_pow_right (n := 2) (by decide) hst
 ⟨Nat.le_trans h.1 this, Nat.le_trans h.2 this⟩
theorem natAbs_divInt_le (a b: Int) (hb: b ≠ 0): (Rat.divInt a b).num.natAbs ≤ a.natAbs ∧ (Rat.divInt a b).den ≤ b.natAbs := by
 rw [Rat.num_divInt, Rat.den_divInt, if_neg hb]
 refine ⟨?_, Nat.div_le_self _ _⟩
 have hd: (b.gcd a: Int) ∣ b.sign * a := Int.dvd_trans (Int.gcd_dvd_right ..) (Int.dvd_mul_left ..)
 rw [Int.natAbs_ediv_of_dvd hd, Int.natAbs_mul, Int.natAbs_sign_of_ne_zero hb, Nat.one_mul]
 exact Nat.div_le_self _ _
theorem Sz.divInt {s: Nat} {a b: Int} (hb: b ≠ 0) (ha: a.natAbs ≤ 2 ^ s) (hb': b.natAbs ≤ 2 ^ s): Sz s (Rat.divInt a b) :=
 let h := natAbs_divInt_le a b hb
 ⟨Nat.le_trans h.1 ha, Nat.le_trans h.2 hb'⟩
theorem Sz.mul {s t: Nat} {a b: Rat} (ha: Sz s a) (hb: Sz t b): Sz (s + t) (a * b) := by
 rw [← rmul_eq]
 refine Sz.divInt (Int.mul_ne_zero (den_ne a) (den_ne b)) ?_ ?_
 ·rw [Int.natAbs_mul, Nat.pow_add]; exact Nat.mul_le_mul ha.1 hb.1
 ·rw [Int.natAbs_mul, Nat.pow_add]; exact Nat.mul_le_mul ha.2 hb.2
theorem Sz.inv {s: Nat} {a: Rat} (ha: Sz s a) (h0: a ≠ 0): Sz s a⁻¹ := by
 rw [← rinv_eq]
 exact Sz.divInt (num_ne h0) ha.2 ha.1
theorem Sz.neg {s: Nat} {a: Rat} (ha: Sz s a): Sz s (-a) := by
 refine ⟨?_,?_⟩
 ·rw [Rat.neg_num, Int.natAbs_neg]; exact ha.1
 ·rw [Rat.neg_den]; exact ha.2
theorem Sz.add {s t: Nat} {a b: Rat} (ha: Sz s a) (hb: Sz t b): Sz (s + t + 1) (a + b) := by
 rw [← radd_eq]
 have e: (2: Nat) ^ (s + t + 1) = 2 ^ s * 2 ^ t + 2 ^ s * 2 ^ t := by rw [Nat.pow_succ, Nat.pow_add]; omega
 refine Sz.divInt (Int.mul_ne_zero (den_ne a) (den_ne b)) ?_ ?_
 ·rw [e]
  refine Nat.le_trans (Int.natAbs_add_le _ _) (Nat.add_le_add ?_ ?_)
  ·rw [Int.natAbs_mul]; exact Nat.mul_le_mul ha.1 hb.2
  ·rw [Int.natAbs_mul, Nat.mul_comm]; exact Nat.mul_le_mul ha.2 hb.1
 ·rw [Int.natAbs_mul, e]
  exact Nat.le_trans (Nat.mul_le_mul ha.2 hb.2) (Nat.le_add_right _ _)
theorem Sz.one: Sz 0 1 := by constructor <;> decide
theorem Sz.one': Sz 0 1 := Sz.one
end Mine.Internal
end
section
namespace Mine.Internal
theorem pg_cons (e: Mo × Rat) (p: Po) (k: Mo): pg (e :: p) k = if e.1 = k then some e.2 else pg p k := by
 simp only [pg, List.find?_cons]
 by_cases h: e.1 = k <;> simp [h]
theorem pg_nil (k: Mo): pg [] k = none := rfl
theorem pg_append (p q: Po) (k: Mo): pg (p ++ q) k = match pg p k with | some c => some c | none => pg q k := by
 induction p with
 | nil => rfl
 | cons e p ih =>
  rw [List.cons_append, pg_cons, pg_cons, ih]
  by_cases h: e.1 = k <;> simp [h]
theorem pg_map_set (p: Po) (m k: Mo) (c: Rat): pg (p.map fun e => if e.1 = m then (e.1, c) else e) k = if k = m ∧ (pg p m).isSome then some c else if k = m then none else pg p k := by
 induction p with
 | nil => simp [pg]
 | cons e p ih =>
  rw [List.map_cons, pg_cons, ih, pg_cons, pg_cons]
  by_cases h: e.1 = m
  ·by_cases hk: k = m
   ·subst hk; simp [h]
   ·have: ¬ e.1 = k := fun q => hk (q ▸ h)
    have hmk: ¬ m = k := fun q => hk q.symm
    simp [h, hk, hmk]
  ·by_cases hk: k = m
   ·subst hk; simp [h]
   ·simp [h, hk]
theorem pg_pp (p: Po) (m k: Mo) (c: Rat): pg (pp p m c) k = if k = m then some c else pg p k := by
 unfold pp
 split
 ·rename_i h
  rw [pg_map_set]
  by_cases hk: k = m <;> simp [hk, h]
 ·rename_i h
  rw [pg_append, pg_cons, pg_nil]
  have h': pg p m = none := by simpa using h
  by_cases hk: k = m
  ·subst hk; simp [h']
  ·have: ¬ m = k := fun q => hk q.symm
   simp only [hk, this, if_false]
   cases pg p k <;> rfl
theorem pg_pd (p: Po) (m k: Mo): pg (pd p m) k = if k = m then none else pg p k := by
 unfold pd
 induction p with
 | nil => simp [pg]
 | cons e p ih =>
  by_cases h: e.1 = m
  ·rw [List.filter_cons_of_neg (by simp [h]), ih, pg_cons]
   by_cases hk: k = m
   ·simp [hk]
   ·have: ¬ e.1 = k := fun q => hk (q ▸ h)
    simp [hk, this]
  ·rw [List.filter_cons_of_pos (by simp [h]), pg_cons, ih, pg_cons]
   by_cases hk: k = m
   ·have: ¬ e.1 = k := fun q => h (q.trans hk)
    simp [hk, h]
   ·simp [hk]
theorem pg_some {p: Po} {m: Mo} {c: Rat} (h: pg p m = some c): (m, c) ∈ p := by
 induction p with
 | nil => cases h
 | cons e p ih =>
  rw [pg_cons] at h
  by_cases q: e.1 = m
  ·rw [if_pos q] at h; cases h; rw [← q]; exact List.mem_cons_self
  ·rw [if_neg q] at h; exact List.mem_cons_of_mem _ (ih h)
theorem pg_none {p: Po} {m: Mo}: pg p m = none ↔ m ∉ p.map (·.1) := by
 induction p with
 | nil => simp [pg]
 | cons e p ih =>
  rw [pg_cons, List.map_cons, List.mem_cons, not_or]
  by_cases q: e.1 = m
  ·simp [q]
  ·have: ¬ m = e.1 := fun h => q h.symm
   simp only [q, if_false, ih, this, not_false_eq_true, true_and]
theorem pg_mem {p: Po} (hn: (p.map (·.1)).Nodup) {e: Mo × Rat} (he: e ∈ p): pg p e.1 = some e.2 := by
 induction p with
 | nil => cases he
 | cons x p ih =>
  rw [List.map_cons, List.nodup_cons] at hn
  rw [pg_cons]
  rcases List.mem_cons.mp he with rfl | he
  ·simp
  ·have: ¬ x.1 = e.1 := fun q => hn.1 (q ▸ List.mem_map_of_mem he)
   rw [if_neg this]; exact ih hn.2 he
theorem pp_fresh {p: Po} {m: Mo} (c: Rat) (h: m ∉ p.map (·.1)): pp p m c = p ++ [(m, c)] := by
 unfold pp; rw [pg_none.mpr h]; rfl
theorem pp_keys_mem (p: Po) (m: Mo) (c: Rat) {e: Mo × Rat} (h: e ∈ pp p m c): e = (m, c) ∨ (e ∈ p ∧ e.1 ≠ m) := by
 unfold pp at h
 split at h
 ·obtain ⟨x, hx, rfl⟩ := List.mem_map.mp h
  by_cases q: x.1 = m
  ·rw [if_pos q]; left; rw [q]
  ·rw [if_neg q]; exact .inr ⟨hx, q⟩
 ·rename_i hs
  rcases List.mem_append.mp h with h | h
  ·refine .inr ⟨h, fun q => ?_⟩
   have: pg p m = none := by simpa using hs
   exact pg_none.mp this (q ▸ List.mem_map_of_mem h)
  ·rw [List.mem_singleton] at h; exact .inl h
theorem map_set_keys (p: Po) (m: Mo) (c: Rat): (p.map fun e => if e.1 = m then (e.1, c) else e).map (·.1) = p.map (·.1) := by
 rw [List.map_map]
 refine List.map_congr_left fun e uu => ?_
 simp only [Function.comp]
 by_cases q: e.1 = m <;> simp [q]
theorem pp_nodup {p: Po} (hn: (p.map (·.1)).Nodup) (m: Mo) (c: Rat): ((pp p m c).map (·.1)).Nodup := by
 unfold pp
 split
 ·rw [map_set_keys]; exact hn
 ·rename_i h
  have h': m ∉ p.map (·.1) := pg_none.mp (by simpa using h)
  rw [List.map_append, List.map_cons, List.map_nil]
  exact List.nodup_append.mpr ⟨hn, by simp, fun a ha b hb => by rw [List.mem_singleton] at hb; subst hb; exact fun q => h' (q ▸ ha)⟩
theorem pd_nodup {p: Po} (hn: (p.map (·.1)).Nodup) (m: Mo): ((pd p m).map (·.1)).Nodup := (List.filter_sublist.map _).nodup hn
theorem pd_mem {p: Po} {m: Mo} {e: Mo × Rat} (h: e ∈ pd p m): e ∈ p ∧ e.1 ≠ m := by
 have := List.mem_filter.mp h
 exact ⟨this.1, by simpa using this.2⟩
theorem pp_length (p: Po) (m: Mo) (c: Rat): (pp p m c).length ≤ p.length + 1 := by
 unfold pp; split <;> simp
theorem pd_length (p: Po) (m: Mo): (pd p m).length ≤ p.length := List.length_filter_le ..
theorem addT_length (p: Po) (m: Mo) (c: Rat): (addT p m c).length ≤ p.length + 1 := by
 unfold addT; split
 ·exact Nat.le_trans (pd_length ..) (Nat.le_succ _)
 ·exact pp_length ..
theorem addL_append (a b c: Po): addL a (b ++ c) = addL (addL a b) c := List.foldl_append ..
theorem addL_length (a b: Po): (addL a b).length ≤ a.length + b.length := by
 induction b generalizing a with
 | nil => exact Nat.le_refl _
 | cons e b ih =>
  have h1 := ih (addT a e.1 e.2)
  have h2 := addT_length a e.1 e.2
  show (addL (addT a e.1 e.2) b).length ≤ _
  rw [List.length_cons]; omega
theorem addT_nodup {p: Po} (hn: (p.map (·.1)).Nodup) (m: Mo) (c: Rat): ((addT p m c).map (·.1)).Nodup := by
 unfold addT; split
 ·exact pd_nodup hn m
 ·exact pp_nodup hn m _
theorem addL_nodup {a: Po} (hn: (a.map (·.1)).Nodup) (b: Po): ((addL a b).map (·.1)).Nodup := by
 induction b generalizing a with
 | nil => exact hn
 | cons e b ih => exact ih (addT_nodup hn e.1 e.2)
theorem pg_addT (p: Po) (m k: Mo) (c: Rat): pg (addT p m c) k = if k = m then (if tot p m c = 0 then none else some (tot p m c)) else pg p k := by
 unfold addT
 by_cases h: tot p m c = 0
 ·rw [if_pos h, pg_pd]; simp [h]
 ·rw [if_neg h, pg_pp]; simp [h]
theorem pg_addL_other {a b: Po} {k: Mo} (h: k ∉ b.map (·.1)): pg (addL a b) k = pg a k := by
 induction b generalizing a with
 | nil => rfl
 | cons e b ih =>
  rw [List.map_cons, List.mem_cons, not_or] at h
  show pg (addL (addT a e.1 e.2) b) k = _
  rw [ih h.2, pg_addT, if_neg h.1]
theorem addT_nz {p: Po} (h: ∀ e ∈ p, e.2 ≠ 0) (m: Mo) (c: Rat): ∀ e ∈ addT p m c, e.2 ≠ 0 := by
 unfold addT
 intro e he
 split at he
 ·exact h e (pd_mem he).1
 ·rename_i hz
  rcases pp_keys_mem p m _ he with rfl | ⟨he, uu⟩
  ·exact hz
  ·exact h e he
theorem addL_nz {a: Po} (h: ∀ e ∈ a, e.2 ≠ 0) (b: Po): ∀ e ∈ addL a b, e.2 ≠ 0 := by
 induction b generalizing a with
 | nil => exact h
 | cons e b ih => exact ih (addT_nz h e.1 e.2)
theorem addL_wf {a: Po} (h: Wf a) (b: Po): Wf (addL a b) := ⟨addL_nodup h.1 b, addL_nz h.2 b⟩
theorem keys_take {p: Po} {i: Nat} (hn: (p.map (·.1)).Nodup) {e: Mo × Rat} (h: p[i]? = some e): e.1 ∉ (p.take i).map (·.1) := by
 intro hm
 obtain ⟨x, hx, hxe⟩ := List.mem_map.mp hm
 obtain ⟨j, hj, rfl⟩ := List.mem_iff_getElem.mp hx
 rw [List.length_take] at hj
 rw [List.getElem_take] at hxe
 have hi := (List.getElem?_eq_some_iff.mp h)
 obtain ⟨hi, he⟩ := hi
 have := List.pairwise_iff_getElem.mp hn j i (by simp; omega) (by simpa using hi) (by omega)
 simp only [List.getElem_map] at this
 exact this (by rw [hxe, he])
theorem take_succ_get {α: Type} {p: List α} {i: Nat} {e: α} (h: p[i]? = some e): p.take (i + 1) = p.take i ++ [e] := by
 rw [List.take_add_one, h]; rfl
theorem lead_mem {o: Od} {p: Po} {l: Mo × Rat} (h: lead o p = some l): l ∈ p := by
 unfold lead at h
 have: ∀ (p: Po) (b: Option (Mo × Rat)), p.foldl (better o) b = some l → (b = some l ∨ l ∈ p) := by
  intro p
  induction p with
  | nil => intro b h; exact .inl h
  | cons e p ih =>
   intro b h
   rcases ih (better o b e) h with q | q
   ·cases b with
    | none => cases q; exact .inr List.mem_cons_self
    | some b =>
     simp only [better] at q
     split at q
     ·cases q; exact .inr List.mem_cons_self
     ·exact .inl q
   ·exact .inr (List.mem_cons_of_mem _ q)
 rcases this p none h with q | q
 ·cases q
 ·exact q
theorem lead_none {o: Od} {p: Po}: lead o p = none ↔ p = [] := by
 constructor
 ·intro h
  cases p with
  | nil => rfl
  | cons e p =>
   exfalso
   have: ∀ (p: Po) (b: Mo × Rat), p.foldl (better o) (some b) ≠ none := by
    intro p
    induction p with
    | nil => intro b h; cases h
    | cons e p ih =>
     intro b h
     simp only [List.foldl_cons, better] at h
     split at h
     ·exact ih _ h
     ·exact ih _ h
   exact this p e h
 ·rintro rfl; rfl
theorem prods_append (p a b: Po): prods p (a ++ b) = prods p a ++ prods p b := by simp [prods]
theorem prods_one (p: Po) (e: Mo × Rat): prods p [e] = p.map fun e' => (mP e'.1 e.1, e'.2 * e.2) := by simp [prods]
theorem prods_prefix {p q: Po} {i: Nat} {e: Mo × Rat} (h: q[i]? = some e) (j: Nat): prods p (q.take i) ++ (p.take j).map (fun e' => (mP e'.1 e.1, e'.2 * e.2)) <+: prods p q := by
 obtain ⟨hi, he⟩ := List.getElem?_eq_some_iff.mp h
 have e1: q = q.take i ++ ([e] ++ q.drop (i + 1)) := by
  conv => lhs; rw [← List.take_append_drop i q]
  rw [List.drop_eq_getElem_cons hi, he]; rfl
 have e2: p.map (fun e' => (mP e'.1 e.1, e'.2 * e.2)) = (p.take j).map (fun e' => (mP e'.1 e.1, e'.2 * e.2)) ++ (p.drop j).map (fun e' => (mP e'.1 e.1, e'.2 * e.2)) := by
  rw [← List.map_append, List.take_append_drop]
 refine ⟨(p.drop j).map (fun e' => (mP e'.1 e.1, e'.2 * e.2)) ++ prods p (q.drop (i + 1)),?_⟩
 conv => rhs; rw [e1]
 rw [prods_append, prods_append, prods_one, e2]
 simp only [List.append_assoc]
structure MulOk (p q: Po): Prop where
 okp: OkP p
 okq: OkP q
 each: ∀ e ∈ prods p q, SzB e.2
 part: ∀ l, l <+: prods p q → ∀ e ∈ addL [] l, SzB e.2
 len: (prods p q).length ≤ 100000
end Mine.Internal
end
section
namespace Mine.Internal
noncomputable def lM (o: Od) (p: Po): Mo := match lead o p with
 | none => (0, 0)
 | some l => l.1
noncomputable def SpRed (o: Od) (G: List Po) (f g: Po) (fin: DSt): Prop :=
 ∃ lf lg, lead o f = some lf ∧ lead o g = some lg ∧ OkP f ∧ OkP g ∧ OkP (shiftP f (mM (mjoin lf.1 lg.1) lf.1) lf.2⁻¹) ∧ OkP (shiftP g (mM (mjoin lf.1 lg.1) lg.1) lg.2⁻¹) ∧ Div o (spoly f g lf lg) G fin
noncomputable def good (ps: List Po): List Po := ps.filter fun p => decide (p ≠ [])
noncomputable def sumTo (qs ss: List Po): Nat → Po
 | 0 => []
 | i + 1 => addL (sumTo qs ss i) (mulP (qs.getD i []) (ss.getD i []))
noncomputable def StartP (p: Po): Prop := ∃ m1: Mo, m1.1 ≤ 2 ∧ m1.2 ≤ 1 ∧ (p = [(m1, 1)] ∨ ∃ (m2: Mo) (c: Rat), m2.1 ≤ 1 ∧ m2.2 ≤ 2 ∧ (c = 1 ∨ c = 2) ∧ p = pp [(m1, 1)] m2 c)
noncomputable def gInit (o: Od) (ps: List Po): GSt := ⟨ps.map (monicP o), (ps.map (monicP o)).map (lM o), pairs0 ps.length, 0⟩
noncomputable def mono1 (a b: Nat): Po := [((a, b), 1)]
noncomputable def SameP (p q: Po): Prop := p.length = q.length ∧ ∀ e ∈ p, pg q e.1 = some e.2
noncomputable def InOk (o: Od) (p: Po): Prop := OkP p ∧ p ≠ [] ∧ ((monicP o p).map (·.1)).Nodup ∧ monicP o p ≠ []
structure LawOk (o: Od) (ps: List Po) (f g: Po): Prop where
 inps: ∀ p ∈ ps, InOk o p
 okf: OkP f
 bound: ∃ (k: Nat) (G: List Po), (∀ most, most < 5 → ∃ n, GRun o most n (gInit o ps) (if most < k then none else some G)) ∧
  (k < 5 → G.length ≤ 100 ∧ (∀ p ∈ G, p.length ≤ 100000 ∧ (p.map (·.1)).Nodup) ∧ (∀ (i j: Nat) (f g: Po), j < i → (good G)[i]? = some f → (good G)[j]? = some g → ∃ fin, SpRed o (good G) f g fin ∧ fin.rest = []) ∧ ∀ p ∈ ps, ∃ fin, Div o p G fin ∧ fin.rest = [])
 parts: ∃ fin, Div o f ([] :: ps.take 2) fin ∧ fin.qs.length = 3 ∧ fin.qs[0]? = some [] ∧ (∀ i q s, fin.qs[i]? = some q → ([] :: ps.take 2)[i]? = some s → MulOk q s ∧ OkP (sumTo fin.qs ([] :: ps.take 2) i) ∧ OkP (mulP q s)) ∧
  OkP (sumTo fin.qs ([] :: ps.take 2) 3) ∧ OkP fin.rest ∧ SameP (addL (sumTo fin.qs ([] :: ps.take 2) 3) fin.rest) f
 none_: ∃ fin, Div o f [] fin ∧ SameP fin.rest f
 zero_: ∃ fin, Div o [] ps fin ∧ fin.rest = []
 exact0: ∃ fin, Div .lex [] [g] fin ∧ fin.rest = [] ∧ fin.qs[0]? = some []
 okpair: ∀ x y, x ≤ 3 → y ≤ 3 → InOk o (mono1 x y)
 pair0: ∀ x y, x ≤ 2 → y ≤ 2 → ∃ n, GRun o 0 n (gInit o [mono1 (1 + x) 1, mono1 (1 + y) 0]) none
 pair1: ∀ x y, x ≤ 2 → y ≤ 2 → ∃ n, GRun o 1 n (gInit o [mono1 (1 + x) 1, mono1 (1 + y) 0]) (some [mono1 (1 + x) 1, mono1 (1 + y) 0])
 pair2: ∃ n, GRun o 0 n (gInit o [mono1 2 0, mono1 0 3]) (some [mono1 2 0, mono1 0 3])
 mul: MulOk f g
 okmul: OkP (mulP f g)
 exact1: ∃ fin q0, Div .lex (mulP f g) [g] fin ∧ fin.rest = [] ∧ fin.qs[0]? = some q0 ∧ SameP q0 f
 exact2: ∃ fin q0, Div .lex (addL (mulP f g) [((0, 0), 1)]) [g] fin ∧ fin.rest.length ≤ 100000 ∧ fin.qs[0]? = some q0 ∧ (fin.rest = [] ↔ g.map (·.1) = [(0, 0)])
end Mine.Internal
end
section
open PySem PySem.W PySem.Calls PyProof.Rows
namespace Mine.Internal
theorem asH {Q: Post} {f: Fl} {ρ: Rho} {H: MH} (H': MH) (h: Q f ρ H') (e: H = H'): Q f ρ H := e ▸ h
section
variable {w: World} {B: Heap} {env: Env} {d: Nat} {ρ: Rho} {H: MH}
theorem Eo {Q: List V → MH → Prop} (h: Q [] H): Evs w B env d [] ρ H Q := h
theorem Evs.cons_ {Q: List V → MH → Prop} {e: Expr} {r: List Expr} (h: Ev w B env d e ρ H fun v H1 => Evs w B env d r ρ H1 fun vs H2 => Q (v :: vs) H2): Evs w B env d (e :: r) ρ H Q := h
noncomputable def Then (w: World) (B: Heap) (env: Env) (d: Nat) (rest: List Stmt) (Q: Post) (X: MH → Prop): Post := fun f ρ' H' => match f with
 | .next => Exs w B env d rest ρ' H' Q X
 | f => Q f ρ' H'
section
variable {Q: Post} {X: MH → Prop} {rest: List Stmt} {st: Stmt}
noncomputable def PLe (P Q1: Post): Prop := ∀ f ρ H, P f ρ H → Q1 f ρ H
theorem Xc (h: ∀ Q1: Post, PLe (Then w B env d rest Q X) Q1 → Ex w B env d st ρ H Q1 X): Exs w B env d (st :: rest) ρ H Q X :=
 Exs.cons (StK.mono (h _ fun uu uu uu q => q) (fun f ρ' H' q => by cases f <;> exact q) fun uu q => q)
variable {Q1: Post}
theorem Then.next (hq: PLe (Then w B env d rest Q X) Q1) (h: Exs w B env d rest ρ H Q X): Q1 .next ρ H := hq .next ρ H h
theorem Then.ret {v: V} (hq: PLe (Then w B env d rest Q X) Q1) (h: Q (.ret v) ρ H): Q1 (.ret v) ρ H := hq (.ret v) ρ H h
theorem Then.cont (hq: PLe (Then w B env d rest Q X) Q1) (h: Q .cont ρ H): Q1 .cont ρ H := hq .cont ρ H h
theorem Then.brk (hq: PLe (Then w B env d rest Q X) Q1) (h: Q .brk ρ H): Q1 .brk ρ H := hq .brk ρ H h
noncomputable def Lp (I: Rho → MH → Prop) (Q: Post): Post := fun f ρ' H' => match f with
 | .next => I ρ' H'
 | .cont => I ρ' H'
 | .brk => Q .next ρ' H'
 | .ret v => Q (.ret v) ρ' H'
theorem Lp.next {I: Rho → MH → Prop} (hq: PLe (Lp I Q) Q1) (h: I ρ H): Q1 .next ρ H := hq .next ρ H h
theorem Lp.cont {I: Rho → MH → Prop} (hq: PLe (Lp I Q) Q1) (h: I ρ H): Q1 .cont ρ H := hq .cont ρ H h
theorem Lp.ret {I: Rho → MH → Prop} {v: V} (hq: PLe (Lp I Q) Q1) (h: Q (.ret v) ρ H): Q1 (.ret v) ρ H := hq (.ret v) ρ H h
theorem Lp.brk {I: Rho → MH → Prop} (hq: PLe (Lp I Q) Q1) (h: Q .next ρ H): Q1 .brk ρ H := hq .brk ρ H h
noncomputable def noR: MH → Prop := fun uu => False
section
variable (w: World) (B: Heap) (env: Env) (d: Nat) (target: Expr) (body: List Stmt) (Q: Post)
inductive TnF (I: Rho → MH → Prop) (x: V) (ρ': Rho) (H': MH): Prop
 | mk (ρ1: Rho) (asg: Asg w B env d target x ρ' ρ1) (go: ∀ Q1: Post, PLe (Lp I Q) Q1 → Exs w B env d body ρ1 H' Q1 noR)
@[reducible] noncomputable def CI_ (C: MH → Prop) (I: Rho → MH → Prop): Rho → MH → Prop := fun ρ2 H2 => C H2 ∧ I ρ2 H2
inductive ForI (ρ: Rho) (xs: List V) (C: MH → Prop) (H1: MH): Prop
 | mk (Inv: Nat → Rho → MH → Prop) (hc: C H1) (h0: Inv 0 ρ H1) (turn: ∀ i x ρ' H', xs[i]? = some x → C H' → Inv i ρ' H' → TnF w B env d target body Q (CI_ C (Inv (i + 1))) x ρ' H') (fin: ∀ ρ' H', C H' → Inv xs.length ρ' H' → Q .next ρ' H')
end
theorem Ex.forB {target iter: Expr} {body: List Stmt} {pos: Pos}
  (h: Its w B env d iter target ρ H (ForI w B env d target body Q ρ))
  (hs: ∀ x, foldedSetIterable iter env x = pure x): Ex w B env d (.For target iter body [] pos) ρ H Q X := by
 refine Ex.for_ (fun A fr s E Q' a S W K => h A fr s E Q' a S W fun I xs C fp St H' s' wk st h1 h2 g S' q => K I xs C fp St H' s' wk st h1 h2 g S' ?_) hs
 obtain ⟨Inv, h1, h2, h3, h4⟩ := q
 refine ⟨Inv, h1, h2, fun i x ρ' H' hx c inv => ?_, h4⟩
 obtain ⟨ρ1, a1, a2⟩ := h3 i x ρ' H' hx c inv
 exact ⟨ρ1, a1, StK.mono (a2 _ fun uu uu uu q => q) (fun f ρ' H' q => by cases f <;> exact q) fun uu q => q.elim⟩
theorem Ex.whileB {test: Expr} {body: List Stmt} {pos: Pos} (Inv: Nat → Rho → MH → Prop) (n: Nat) (h0: Inv n ρ H)
  (turn: ∀ n ρ' H', Inv n ρ' H' → Ts w B env d test ρ' H' fun b H1 => if b then ∀ Q1: Post, PLe (Lp (fun ρ2 H2 => ∃ m, m < n ∧ Inv m ρ2 H2) Q) Q1 → Exs w B env d body ρ' H1 Q1 X else Q .next ρ' H1) :
  Ex w B env d (.While test body [] pos) ρ H Q X := by
 refine Ex.while_ Inv n h0 fun n ρ' H' inv A fr s E Q' a S W K => turn n ρ' H' inv A fr s E Q' a S W fun b H1 s1 g S1 q => K b H1 s1 g S1 ?_
 cases b with
 | true => exact StK.mono (q _ fun uu uu uu q => q) (fun f ρ' H' q => by cases f <;> exact q) fun uu q => q
 | false => exact q
theorem iteT {c: Prop} [Decidable c] {p q: Prop} (hc: c) (h: p): if c then p else q := by rw [if_pos hc]; exact h
theorem iteF {c: Prop} [Decidable c] {p q: Prop} (hc: ¬ c) (h: q): if c then p else q := by rw [if_neg hc]; exact h
end
section
variable {Q: V → MH → Prop}
theorem Ev.globPair {x: Str} {pos: Pos} {a: Addr} {i j: Int} {t u: Tok} (D: Wd w B) (hf: nsIn (Internal.heapK w.params) mainGlobals x = some (some (.ref a)))
  (ho: (Internal.heapK w.params).lookup a = some { cls := .type "tuple", data := .seq #[.int i t, .int j u] }) (h: Q (.tup [.int i, .int j]) H)
  (hx: env.kindOf x = some .globalImplicit) (hd1: (x == ("__debug__": Str)) = false): Ev w B env d (.Name x pos) ρ H Q := by
 intro A fr s E Q' a' S W K
 refine global_raw D S.base W hf hx ?_ hd1
 refine K _ _ H s (Gr.refl ..) S ?_ h
 exact .tup (n := 0) ((D.inn.keeps S.base) _ _ ho) (.cons (.int ..) (.cons (.int ..) .nil))
end
noncomputable def bootTab: List (Str × Value) := [("abs", .builtin "abs"), ("len", .builtin "len"), ("sum", .builtin "sum"), ("max", .builtin "max"), ("min", .builtin "min"), ("tuple", .type "tuple"), ("list", .type "list"), ("dict", .type "dict")]
theorem boot_tab {f: Str} {v: Value} (h: bootTab.lookup f = some v): bootBuiltins f = some v := by
 have := mem_of_lookup h
 simp only [bootTab, List.mem_cons, Prod.mk.injEq, List.not_mem_nil, or_false] at this
 rcases this with ⟨rfl, rfl⟩ | ⟨rfl, rfl⟩ | ⟨rfl, rfl⟩ | ⟨rfl, rfl⟩ | ⟨rfl, rfl⟩ | ⟨rfl, rfl⟩ | ⟨rfl, rfl⟩ | ⟨rfl, rfl⟩
 ·exact PyProof.Rows.boot_abs
 ·exact PySem.boot_len
 ·exact PyProof.Rows.boot_sum
 ·exact PyProof.Rows.boot_max
 ·exact PyProof.Rows.boot_min
 ·exact PyProof.Rows.boot_tuple
 ·exact PyProof.Rows.boot_list
 ·exact PyProof.Rows.boot_dict
noncomputable def HLe (H H': MH): Prop := ∀ a, H.o a ≠ none → H'.o a = H.o a ∧ H'.ver a = H.ver a
theorem HLe.refl (H: MH): HLe H H := fun uu uu => ⟨rfl, rfl⟩
theorem HLe.trans {H H' H'': MH} (x: HLe H H') (y: HLe H' H''): HLe H H'' := fun a h => by
 obtain ⟨e1, e2⟩ := x a h
 obtain ⟨e3, e4⟩ := y a (by rw [e1]; exact h)
 exact ⟨e3.trans e1, e4.trans e2⟩
theorem HLe.new {H: MH} {n: Addr} (hn: H.o n = none) (mo: MO): HLe H (H.set n mo) := fun a h => by
 have: a ≠ n := fun q => h (q ▸ hn)
 exact ⟨MH.set_ne H mo this, MH.ver_ne H mo this⟩
theorem HLe.get {H H': MH} (x: HLe H H') {a: Addr} {mo: MO} (h: H.o a = some mo): H'.o a = some mo := by
 rw [(x a (by rw [h]; simp)).1, h]
theorem HLe.vr {H H': MH} (x: HLe H H') {a: Addr} {mo: MO} (h: H.o a = some mo): H'.ver a = H.ver a := (x a (by rw [h]; simp)).2
noncomputable def HUp (c: Addr) (H H': MH): Prop := ∀ a, a ≠ c → H.o a ≠ none → H'.o a = H.o a ∧ H'.ver a = H.ver a
theorem HUp.refl (c: Addr) (H: MH): HUp c H H := fun uu uu uu => ⟨rfl, rfl⟩
theorem HUp.set (H: MH) (c: Addr) (mo: MO): HUp c H (H.set c mo) := fun uu n uu => ⟨MH.set_ne H mo n, MH.ver_ne H mo n⟩
theorem HUp.trans {c: Addr} {H H' H'': MH} (x: HUp c H H') (y: HUp c H' H''): HUp c H H'' := fun a n h => by
 obtain ⟨e1, e2⟩ := x a n h
 obtain ⟨e3, e4⟩ := y a n (by rw [e1]; exact h)
 exact ⟨e3.trans e1, e4.trans e2⟩
theorem HLe.up {H H': MH} (x: HLe H H') (c: Addr): HUp c H H' := fun a uu h => x a h
theorem HUp.le {c: Addr} {H H' H'': MH} (x: HLe H H') (hc: H.o c = none) (y: HUp c H' H''): HLe H H'' := fun a h => by
 obtain ⟨e1, e2⟩ := x a h
 obtain ⟨e3, e4⟩ := y a (fun q => h (q ▸ hc)) (by rw [e1]; exact h)
 exact ⟨e3.trans e1, e4.trans e2⟩
theorem HUp.get {c a: Addr} {H H': MH} (x: HUp c H H') {mo: MO} (h: H.o a = some mo) (n: a ≠ c): H'.o a = some mo := by
 rw [(x a n (by rw [h]; simp)).1, h]
theorem HUp.vr {c a: Addr} {H H': MH} (x: HUp c H H') {mo: MO} (h: H.o a = some mo) (n: a ≠ c): H'.ver a = H.ver a := (x a n (by rw [h]; simp)).2
noncomputable abbrev eM (m: Mo): Mon := ((m.1: Int), (m.2: Int))
noncomputable abbrev eR (q: Rat): Rt := (q.num, (q.den: Int))
noncomputable def eP (p: Po): PL := p.map fun e => (eM e.1, eR e.2)
noncomputable abbrev MV (m: Mo): V := mv (eM m)
noncomputable abbrev RV (q: Rat): V := rv (eR q)
theorem eM_inj {a b: Mo}: eM a = eM b ↔ a = b := by
 obtain ⟨a1, a2⟩ := a; obtain ⟨b1, b2⟩ := b
 simp only [eM, Prod.mk.injEq]; lia
theorem pget_eP (p: Po) (m: Mo): pget (eP p) (eM m) = (pg p m).map eR := by
 induction p with
 | nil => rfl
 | cons e p ih =>
  simp only [pget, pg, eP, List.map_cons, List.find?_cons] at ih ⊢
  by_cases q: e.1 = m
  ·simp [q]
  ·have: ¬ eM e.1 = eM m := fun h => q (eM_inj.mp h)
   simp only [q, this, decide_false]; exact ih
theorem pput_eP (p: Po) (m: Mo) (c: Rat): pput (eP p) (eM m) (eR c) = eP (pp p m c) := by
 simp only [pput, pp, pget_eP, Option.isSome_map]
 split
 ·simp only [eP, List.map_map]
  refine List.map_congr_left fun e uu => ?_
  simp only [Function.comp]
  by_cases q: e.1 = m
  ·simp [q]
  ·have: ¬ eM e.1 = eM m := fun h => q (eM_inj.mp h)
   simp only [q, this, if_false]
 ·simp [eP]
theorem pdel_eP (p: Po) (m: Mo): pdel (eP p) (eM m) = eP (pd p m) := by
 induction p with
 | nil => rfl
 | cons e p ih =>
  simp only [pdel, pd, eP, List.map_cons] at ih ⊢
  by_cases q: e.1 = m
  ·rw [List.filter_cons_of_neg (by simp [q]), List.filter_cons_of_neg (by simp [q])]; exact ih
  ·have: ¬ eM e.1 = eM m := fun h => q (eM_inj.mp h)
   simp only [List.filter_cons, ne_eq, this, not_false_eq_true, decide_true, if_true, q, List.map_cons] at ih ⊢
   rw [ih]
theorem eP_length (p: Po): (eP p).length = p.length := by simp [eP]
end
end Mine.Internal
end
section
open PySem PySem.W PySem.Calls PyProof.Rows
namespace Mine.Internal
section
variable (w: World) (B: Heap) (env: Env) (d: Nat) (ρ: Rho)
noncomputable abbrev VQ := V → MH → Prop
noncomputable abbrev LQ := List V → MH → Prop
noncomputable abbrev BQ := Bool → MH → Prop
@[reducible] noncomputable def KBin2 (op: Operator) (Q: VQ) (x: V): VQ := fun y H2 => Bin w B d op x y H2 Q
@[reducible] noncomputable def KBin (r: Expr) (op: Operator) (Q: VQ): VQ := fun x H1 => Ev w B env d r ρ H1 (KBin2 w B d op Q x)
@[reducible] noncomputable def KCmp2 (op: CmpOp) (Q: VQ) (x: V): VQ := fun y H2 => Cmp w B d op x y H2 Q
@[reducible] noncomputable def KCmp (r: Expr) (op: CmpOp) (Q: VQ): VQ := fun x H1 => Ev w B env d r ρ H1 (KCmp2 w B d op Q x)
@[reducible] noncomputable def KBool (Q: BQ): VQ := fun z H3 => ∃ b, z = .bool b ∧ Q b H3
@[reducible] noncomputable def KUn (op: UnaryOp) (Q: VQ): VQ := fun x H1 => Un w B d op x H1 Q
@[reducible] noncomputable def KIfE (b o: Expr) (Q: VQ): BQ := fun c H1 => if c then Ev w B env d b ρ H1 Q else Ev w B env d o ρ H1 Q
@[reducible] noncomputable def KSub2 (Q: VQ) (x: V): VQ := fun y H2 => Iti w B d x y H2 Q
@[reducible] noncomputable def KSub (r: Expr) (Q: VQ): VQ := fun x H1 => Ev w B env d r ρ H1 (KSub2 w B d Q x)
@[reducible] noncomputable def KCal (f: Value) (Q: VQ): LQ := fun xs H1 => Cal w B d f xs H1 Q
@[reducible] noncomputable def KMe2 (f: Value) (Q: VQ) (v: V): LQ := fun xs H1 => Cal w B d f (v :: xs) H1 Q
@[reducible] noncomputable def KMe (T: String) (es: List Expr) (f: Value) (Q: VQ): VQ := fun v H1 => OnT w B T v H1 ∧ Evs w B env d es ρ H1 (KMe2 w B d f Q v)
@[reducible] noncomputable def KCons (v: V) (Q: LQ): LQ := fun vs H2 => Q (v :: vs) H2
@[reducible] noncomputable def KEvs (r: List Expr) (Q: LQ): VQ := fun v H1 => Evs w B env d r ρ H1 (KCons v Q)
@[reducible] noncomputable def KTup (Q: VQ): LQ := fun vs H' => Q (.tup vs) H'
@[reducible] noncomputable def KList (Q: VQ): LQ := fun vs H' => ∀ n, H'.o n = none → Q (.ref n) (H'.set n (.list vs))
@[reducible] noncomputable def KRet (Q: Post): VQ := fun v H' => Q (.ret v) ρ H'
@[reducible] noncomputable def KAsg (x: Str) (Q: Post): VQ := fun v H' => Q .next (ρ.set x v) H'
@[reducible] noncomputable def KExp (Q: Post): VQ := fun uu H' => Q .next ρ H'
@[reducible] noncomputable def KPair (x y: Str) (Q: Post): VQ := fun v H' => ∃ u z, v = .tup [u, z] ∧ Q .next ((ρ.set x u).set y z) H'
@[reducible] noncomputable def KPairS (x y: Str) (Q: Post): VQ := fun v H' => ∃ u z, v = .tup [u, z] ∧ Q .next ((ρ.set y z).set x u) H'
@[reducible] noncomputable def KTt (Q: BQ): VQ := fun v H1 => Tt w B d v H1 Q
@[reducible] noncomputable def KNot (Q: BQ): BQ := fun b H1 => Q (!b) H1
@[reducible] noncomputable def KAnd (r: List Expr) (Q: BQ): BQ := fun b H1 => if b then Al w B env d .And r ρ H1 Q else Q false H1
@[reducible] noncomputable def KOr (r: List Expr) (Q: BQ): BQ := fun b H1 => if b then Q true H1 else Al w B env d .Or r ρ H1 Q
@[reducible] noncomputable def KIf (b o: List Stmt) (Q: Post) (X: MH → Prop): BQ := fun c H1 => if c then Exs w B env d b ρ H1 Q X else Exs w B env d o ρ H1 Q X
@[reducible] noncomputable def KAug (x: Str) (i: Int) (Q: Post): VQ := fun v H' => ∃ j, v = .int j ∧ Q .next (ρ.set x (.int (i + j))) H'
@[reducible] noncomputable def KItb (target: Expr) (Q: List V → (MH → Prop) → MH → Prop): VQ := fun v H1 => ∃ xs C, Itb w B d target v H1 xs C ∧ Q xs C H1
@[reducible] noncomputable def KEnum (Q: List V → (MH → Prop) → MH → Prop): VQ := fun v H1 => (∃ l xs, v = .ref l ∧ H1.o l = some (.list xs) ∧ Q (enumV 0 xs) (fun H' => H'.o l = some (.list xs)) H1) ∨ (∃ xs, v = .tup xs ∧ Q (enumV 0 xs) (fun uu => True) H1)
@[reducible] noncomputable def KRange (Q: List V → (MH → Prop) → MH → Prop): VQ := fun v H1 => ∃ n: Nat, n ≤ 1000000 ∧ v = .int n ∧ Q (rangeV n) (fun uu => True) H1
@[reducible] noncomputable def KLc (Q: VQ): LQ := fun ys H' => ∀ n, H'.o n = none → Q (.ref n) (H'.set n (.list ys))
@[reducible] noncomputable def KDc (Q: VQ): PL → MH → Prop := fun ys H' => ∀ n, H'.o n = none → Q (.ref n) (H'.set n (.poly ys))
@[reducible] noncomputable def KLca (x: Str) (Q: Post): LQ := fun ys H' => ∀ n, H'.o n = none → Q .next (ρ.set x (.ref n)) (H'.set n (.list ys))
@[reducible] noncomputable def KAs3 (v ov: V) (Qp: Post): VQ := fun iv H3 => (∃ l xs j, ov = .ref l ∧ H3.o l = some (.list xs) ∧ iv = .int (j: Nat) ∧ j < xs.length ∧ j < 1000000 ∧ Qp .next ρ (H3.set l (.list (xs.set j v)))) ∨
      (∃ a p m c, ov = .ref a ∧ H3.o a = some (.poly p) ∧ p.length ≤ 1000000 ∧ iv = mv m ∧ v = rv c ∧ Qp .next ρ (H3.set a (.poly (pput p m c))))
@[reducible] noncomputable def KAs2 (i: Expr) (v: V) (Qp: Post): VQ := fun ov H2 => Ev w B env d i ρ H2 (KAs3 ρ v ov Qp)
@[reducible] noncomputable def KAs (o i: Expr) (Qp: Post): VQ := fun v H1 => Ev w B env d o ρ H1 (KAs2 w B env d ρ i v Qp)
end
section
variable {w: World} {B: Heap} {env: Env} {d: Nat} {ρ: Rho} {H: MH} {Q: VQ} {P: Post} {X: MH → Prop} {b: BQ}
theorem En {x: Str} {pos: Pos} {v: V} (h: Q v H) (hv: ρ x = some v := by with_unfolding_all rfl) (hd: (x == ("__debug__": Str)) = false := by decide) (hc: (x == ("__classdict__": Str)) = false := by decide): Ev w B env d (.Name x pos) ρ H Q := Em hv h hd hc
theorem Ev.kglob {x: Str} {pos: Pos} {a: Addr} {i j: Int} {t u: Tok} (h: Q (.tup [.int i, .int j]) H) (D: Wd w B := by assumption) (hf: nsIn (Internal.heapK w.params) mainGlobals x = some (some (.ref a)) := by with_unfolding_all rfl)
  (ho: (Internal.heapK w.params).lookup a = some { cls := .type "tuple", data := .seq #[.int i t, .int j u] } := by with_unfolding_all rfl) (hx: env.kindOf x = some .globalImplicit := by with_unfolding_all rfl) (hd1: (x == ("__debug__": Str)) = false := by decide): Ev w B env d (.Name x pos) ρ H Q := Ev.globPair D hf ho h hx hd1
theorem Eg {l r: Expr} {op: Operator} {pos: Pos} (h: Ev w B env d l ρ H (KBin w B env d ρ r op Q)): Ev w B env d (.BinOp l op r pos) ρ H Q := Ev.bin h
theorem Ev.kcmp {l r: Expr} {op: CmpOp} {pos: Pos} (h: Ev w B env d l ρ H (KCmp w B env d ρ r op Q)) (hm: behindInMarks op r = false := by with_unfolding_all rfl): Ev w B env d (.Compare l [op] [r] pos) ρ H Q := Ev.cmp h hm
theorem Tk {l r: Expr} {op: CmpOp} {pos: Pos} (h: Ev w B env d l ρ H (KCmp w B env d ρ r op (KBool b))) (hm: behindInMarks op r = false := by with_unfolding_all rfl): Ts w B env d (.Compare l [op] [r] pos) ρ H b := Ts.cmp h hm
theorem Ev.kun {x: Expr} {op: UnaryOp} {pos: Pos} (h: Ev w B env d x ρ H (KUn w B d op Q)): Ev w B env d (.UnaryOp op x pos) ρ H Q := Ev.un h
theorem Ev.kif {t l o: Expr} {pos: Pos} (h: Ts w B env d t ρ H (KIfE w B env d ρ l o Q)): Ev w B env d (.IfExp t l o pos) ρ H Q := Ev.ifexp h
theorem Eb {value slice: Expr} {pos: Pos} (h: Ev w B env d value ρ H (KSub w B env d ρ slice Q)) (hs: ∀ o i, subscripted slice false o i = operate [o, i] (getItem o i) := by with_unfolding_all exact fun uu uu => rfl): Ev w B env d (.Subscript value slice pos) ρ H Q := Ev.sub h hs
theorem Ek {f: Str} {np pos: Pos} {fa: Addr} {fo: Obj} {fd: FuncData} {e: Expr} {es: List Expr} (h: Evs w B env d (e :: es) ρ H (KCal w B d (.ref fa) Q)) (D: Wd w B := by assumption) (hf: nsIn (Internal.heapK w.params) mainGlobals f = some (some (.ref fa)) := by with_unfolding_all rfl)
  (ho: (Internal.heapK w.params).lookup fa = some fo := by with_unfolding_all rfl) (hd: fo.data = .func fd := by with_unfolding_all rfl) (hx: env.kindOf f = some .globalImplicit := by with_unfolding_all rfl) (hp: (e :: es).all noStar = true := by with_unfolding_all rfl) (hd1: (f == ("__debug__": Str)) = false := by decide): Ev w B env d (.Call (.Name f np) (e :: es) [] pos) ρ H Q := Ev.call D hf ho hd h hx hp hd1
section
variable {f: Str} {np pos: Pos} {e: Expr} {es: List Expr}
theorem Ev.kcall_bi {id: String} (h: Evs w B env d (e :: es) ρ H (KCal w B d (.builtin id) Q)) (D: Wd w B := by assumption) (hf: nsIn (Internal.heapK w.params) mainGlobals f = some none := by with_unfolding_all rfl) (hv: bootTab.lookup f = some (.builtin id) := by with_unfolding_all rfl) (hn: f ≠ "__name__" := by decide)
  (hx: env.kindOf f = some .globalImplicit := by with_unfolding_all rfl) (hp: (e :: es).all noStar = true := by with_unfolding_all rfl) (hd1: (f == ("__debug__": Str)) = false := by decide): Ev w B env d (.Call (.Name f np) (e :: es) [] pos) ρ H Q := Ev.call_bi D hf (boot_tab hv) hn h hx hp hd1
theorem Ev.kcall_ty {T: String} (h: Evs w B env d (e :: es) ρ H (KCal w B d (.type T) Q)) (D: Wd w B := by assumption) (hf: nsIn (Internal.heapK w.params) mainGlobals f = some none := by with_unfolding_all rfl) (hv: bootTab.lookup f = some (.type T) := by with_unfolding_all rfl) (hn: f ≠ "__name__" := by decide)
  (hx: env.kindOf f = some .globalImplicit := by with_unfolding_all rfl) (hp: (e :: es).all noStar = true := by with_unfolding_all rfl) (hd1: (f == ("__debug__": Str)) = false := by decide): Ev w B env d (.Call (.Name f np) (e :: es) [] pos) ρ H Q := Ev.call_ty D hf (boot_tab hv) hn h hx hp hd1
end
theorem Ev.kmethod {o: Expr} {name: Str} {apos pos: Pos} {e: Expr} {es: List Expr} {T id: String} (pa: PlainAttrs T) (slot: Slot T name id) (hty: typeOf (.builtin id) = pure (.type "method_descriptor"))
  (h: Ev w B env d o ρ H (KMe w B env d ρ T (e :: es) (.builtin id) Q)) (hbase: attributeBase o name env (eval o env) = eval o env := by with_unfolding_all rfl)
  (hfew: ((backTo pos (starEach (e :: es) env)).all (fun x => !x.1) && (backToKw pos (keywordEach [] env)).all (fun x => x.1.isSome)
   && decide ((e :: es).length + ([]: List Keyword).length + (if ([]: List Keyword).isEmpty then 0 else 1) < 30)) = true := by with_unfolding_all rfl)
  (hline: (apos.endLine == pos.line) = true := by with_unfolding_all rfl) (hp: (e :: es).all noStar = true := by with_unfolding_all rfl): Ev w B env d (.Call (.Attribute o name apos) (e :: es) [] pos) ρ H Q := Ev.method pa slot hty h hbase hfew hline hp
theorem Ts.kval {e: Expr} (h: Ev w B env d e ρ H (KTt w B d b)) (he: ∀ whole, isTrue e env whole = (do let v ← whole; standAt e.pos; holding [v] (truthy v)) := by with_unfolding_all exact fun uu => rfl): Ts w B env d e ρ H b := Ts.val h he
theorem Ts.knot {x: Expr} {pos: Pos} (h: Ts w B env d x ρ H (KNot b)): Ts w B env d (.UnaryOp .Not x pos) ρ H b := Ts.not h
theorem Al.kand {x: Expr} {r: List Expr} (h: Ts w B env d x ρ H (KAnd w B env d ρ r b)): Al w B env d .And (x :: r) ρ H b := Al.and_cons h
theorem Al.kor {x: Expr} {r: List Expr} (h: Ts w B env d x ρ H (KOr w B env d ρ r b)): Al w B env d .Or (x :: r) ρ H b := Al.or_cons h
theorem Ea {L: LQ} {e: Expr} {r: List Expr} (h: Ev w B env d e ρ H (KEvs w B env d ρ r L)): Evs w B env d (e :: r) ρ H L := Evs.cons_ h
theorem Et {es: List Expr} {k: Nat} {pos: Pos} (h: Evs w B env d es ρ H (KTup Q)) (hp: es.all noStar = true := by with_unfolding_all rfl) (hl: es.length ≤ 100 := by decide): Ev w B env d (.Tuple es k pos) ρ H Q := Ev.tuple h hp hl
theorem Eh {es: List Expr} {pos: Pos} (h: Evs w B env d es ρ H (KList Q)) (hp: es.all noStar = true := by with_unfolding_all rfl) (hl: es.length ≤ 100 := by decide): Ev w B env d (.List es pos) ρ H Q := Ev.list h hp hl
theorem Iu {xs: List V} {i: Int} {x: V} (h: Q x H) (h0: 0 ≤ i := by decide) (h1: i < 1000000 := by decide) (hx: xs[i.toNat]? = some x := by with_unfolding_all rfl): Iti w B d (.tup xs) (.int i) H Q := Iti.tup h0 h1 hx h
theorem Xr {e: Expr} {pos: Pos} (h: Ev w B env d e ρ H (KRet ρ P)): Ex w B env d (.Return (some e) pos) ρ H P X := Ex.ret h
theorem Xi {t: Expr} {b o: List Stmt} {pos: Pos} (h: Ts w B env d t ρ H (KIf w B env d ρ b o P X)): Ex w B env d (.If t b o pos) ρ H P X := Ex.if_ h
theorem Xa {x: Str} {pos' pos: Pos} {value: Expr} (h: Ev w B env d value ρ H (KAsg ρ x P)) (hx: Kept env x := by with_unfolding_all first | exact Or.inl rfl | exact Or.inr ⟨rfl, rfl⟩) (hs: swapsWith value (some (.Name x pos')) pos.line env = pure false := by with_unfolding_all rfl): Ex w B env d (.Assign [.Name x pos'] value pos) ρ H P X := Ex.assign h hx hs
theorem Ex.kexpr {e: Expr} {pos: Pos} (h: Ev w B env d e ρ H (KExp ρ P)) (hi: interactive env = false := by with_unfolding_all rfl) (hs: swapsWith e none pos.line env = pure false := by with_unfolding_all rfl): Ex w B env d (.Expr e pos) ρ H P X := Ex.expr h hi hs
theorem Ex.kpair {x y: Str} {px py pt pos: Pos} {k: Nat} {value: Expr} (h: Ev w B env d value ρ H (KPair ρ x y P)) (hx: Kept env x := by with_unfolding_all first | exact Or.inl rfl | exact Or.inr ⟨rfl, rfl⟩) (hy: Kept env y := by with_unfolding_all first | exact Or.inl rfl | exact Or.inr ⟨rfl, rfl⟩)
  (hs: swapsWithSole [.Tuple [.Name x px, .Name y py] k pt] value pos.line env = pure false := by with_unfolding_all rfl) (hw: swappedStores [.Tuple [.Name x px, .Name y py] k pt] value env = pure none := by with_unfolding_all rfl) :
  Ex w B env d (.Assign [.Tuple [.Name x px, .Name y py] k pt] value pos) ρ H P X := Ex.assign_pair h hx hy hs hw
theorem Ex.kpairS {x y: Str} {px py pt pos: Pos} {k: Nat} {value: Expr} (h: Ev w B env d value ρ H (KPairS ρ x y P)) (hx: Kept env x := by with_unfolding_all first | exact Or.inl rfl | exact Or.inr ⟨rfl, rfl⟩) (hy: Kept env y := by with_unfolding_all first | exact Or.inl rfl | exact Or.inr ⟨rfl, rfl⟩)
  (hs: swapsWithSole [.Tuple [.Name x px, .Name y py] k pt] value pos.line env = pure false := by with_unfolding_all rfl) (hw: swappedStores [.Tuple [.Name x px, .Name y py] k pt] value env = pure (some [x, y]) := by with_unfolding_all rfl) :
  Ex w B env d (.Assign [.Tuple [.Name x px, .Name y py] k pt] value pos) ρ H P X := Ex.assign_pair_sw h hx hy hs hw
theorem Ex.kaug {x: Str} {pos' pos: Pos} {value: Expr} {op: Operator} {i: Int} (hx0: ρ x = some (.int i)) (hop: op = .Add) (h: Ev w B env d value ρ H (KAug ρ x i P)) (hx: env.kindOf x = some .local := by rfl) :
  Ex w B env d (.AugAssign (.Name x pos') op value pos) ρ H P X := Ex.aug hx0 hop h hx
theorem Ex.kassign_sub {o i value: Expr} {pos' pos: Pos} (h: Ev w B env d value ρ H (KAs w B env d ρ o i P)) (hs: swapsWith value (some (.Subscript o i pos')) pos.line env = pure false := by with_unfolding_all rfl): Ex w B env d (.Assign [.Subscript o i pos'] value pos) ρ H P X := Ex.assign_sub h hs
section
variable {Q1: Post} {rest: List Stmt}
theorem Tn (h: Exs w B env d rest ρ H P X) (hq: PLe (Then w B env d rest P X) Q1 := by assumption): Q1 .next ρ H := hq .next ρ H h
theorem Tq {v: V} (h: P (.ret v) ρ H) (hq: PLe (Then w B env d rest P X) Q1 := by assumption): Q1 (.ret v) ρ H := hq (.ret v) ρ H h
theorem Then.kcont (h: P .cont ρ H) (hq: PLe (Then w B env d rest P X) Q1 := by assumption): Q1 .cont ρ H := hq .cont ρ H h
end
section
variable {I: List V → (MH → Prop) → MH → Prop}
theorem Its.kof {iter target: Expr} (h: Ev w B env d iter ρ H (KItb w B d target I)): Its w B env d iter target ρ H I := Its.of_ev h
theorem Its.kenum {np pos: Pos} {e: Expr} {elts: List Expr} {k: Nat} {pt: Pos} (h: Ev w B env d e ρ H (KEnum I)) (D: Wd w B := by assumption) (hf: nsIn (Internal.heapK w.params) mainGlobals "enumerate" = some none := by with_unfolding_all rfl)
  (hx: env.kindOf "enumerate" = some .globalImplicit := by with_unfolding_all rfl) (hp: noStar e = true := by with_unfolding_all rfl): Its w B env d (.Call (.Name "enumerate" np) [e] [] pos) (.Tuple elts k pt) ρ H I := Its.enum D hf h hx hp
theorem Its.krange1 {np pos: Pos} {e target: Expr} {x: Str} {px: Pos} (h: Ev w B env d e ρ H (KRange I)) (D: Wd w B := by assumption) (ht: target = .Name x px := by with_unfolding_all rfl) (hf: nsIn (Internal.heapK w.params) mainGlobals "range" = some none := by with_unfolding_all rfl)
  (hx: env.kindOf "range" = some .globalImplicit := by with_unfolding_all rfl) (hp: noStar e = true := by with_unfolding_all rfl): Its w B env d (.Call (.Name "range" np) [e] [] pos) target ρ H I := Its.range1 D ht hf h hx hp
end
section
variable {elt kx vx target iter: Expr} {ifs: List Expr} {scope: Scope} {pos: Pos} {cl: List (Str × Addr)}
theorem Ev.klc (h: Its w B env d iter target ρ H (CompL w B env d elt target ifs scope cl ρ (KLc Q))) (hclos: closureFor scope env = pure cl := by with_unfolding_all rfl) (hcl: ClOk scope env cl := by with_unfolding_all first | exact True.intro | exact ⟨rfl, rfl, True.intro⟩ | exact ⟨rfl, rfl, rfl, rfl, True.intro⟩ | exact ⟨rfl, rfl, rfl, rfl, rfl, rfl, True.intro⟩ | exact ⟨rfl, rfl, rfl, rfl, rfl, rfl, rfl, rfl, True.intro⟩) (hnd: (cl.map (·.1)).Nodup := by first | decide | (simp only [List.map_cons, List.map_nil]; decide))
  (hcell: ∀ y ∈ scope.names, y.2 ≠ .cell := by decide) (hkind: scope.kind = .function := by with_unfolding_all rfl) (hnames: ∀ y ∈ scope.names, y.2 = .local → scope.names.lookup y.1 = some .local := by decide)
  (hs: ∀ x, foldedSetIterable iter env x = pure x := by with_unfolding_all exact fun uu => rfl): Ev w B env d (.ListComp elt [⟨target, iter, ifs, 0⟩] scope pos) ρ H Q := Ev.listcomp hclos hcl hnd h hcell hkind hnames hs
theorem Ev.kdc (h: Its w B env d iter target ρ H (CompD w B env d kx vx target scope cl ρ (KDc Q))) (hclos: closureFor scope env = pure cl := by with_unfolding_all rfl) (hcl: ClOk scope env cl := by with_unfolding_all first | exact True.intro | exact ⟨rfl, rfl, True.intro⟩ | exact ⟨rfl, rfl, rfl, rfl, True.intro⟩ | exact ⟨rfl, rfl, rfl, rfl, rfl, rfl, True.intro⟩ | exact ⟨rfl, rfl, rfl, rfl, rfl, rfl, rfl, rfl, True.intro⟩) (hnd: (cl.map (·.1)).Nodup := by first | decide | (simp only [List.map_cons, List.map_nil]; decide))
  (hcell: ∀ y ∈ scope.names, y.2 ≠ .cell := by decide) (hkind: scope.kind = .function := by with_unfolding_all rfl) (hnames: ∀ y ∈ scope.names, y.2 = .local → scope.names.lookup y.1 = some .local := by decide)
  (hs: ∀ x, foldedSetIterable iter env x = pure x := by with_unfolding_all exact fun uu => rfl): Ev w B env d (.DictComp kx vx [⟨target, iter, [], 0⟩] scope pos) ρ H Q := Ev.dictcomp hclos hcl hnd h hcell hkind hnames hs
theorem Ex.klca {x: Str} {px pos': Pos} (h: Its w B env d iter target ρ H (CompL w B env d elt target ifs scope cl ρ (KLca ρ x P))) (hclos: closureFor scope env = pure cl := by with_unfolding_all rfl) (hcl: ClOk scope env cl := by with_unfolding_all first | exact True.intro | exact ⟨rfl, rfl, True.intro⟩ | exact ⟨rfl, rfl, rfl, rfl, True.intro⟩ | exact ⟨rfl, rfl, rfl, rfl, rfl, rfl, True.intro⟩ | exact ⟨rfl, rfl, rfl, rfl, rfl, rfl, rfl, rfl, True.intro⟩) (hnd: (cl.map (·.1)).Nodup := by first | decide | (simp only [List.map_cons, List.map_nil]; decide))
  (hcell: ∀ y ∈ scope.names, y.2 ≠ .cell := by decide) (hkind: scope.kind = .function := by with_unfolding_all rfl) (hnames: ∀ y ∈ scope.names, y.2 = .local → scope.names.lookup y.1 = some .local := by decide) (hx: Kept env x := by with_unfolding_all first | exact Or.inl rfl | exact Or.inr ⟨rfl, rfl⟩)
  (hsw: swapsWith (.ListComp elt [⟨target, iter, ifs, 0⟩] scope pos) (some (.Name x px)) pos'.line env = pure true := by with_unfolding_all rfl) (hs: ∀ x, foldedSetIterable iter env x = pure x := by with_unfolding_all exact fun uu => rfl) :
  Ex w B env d (.Assign [.Name x px] (.ListComp elt [⟨target, iter, ifs, 0⟩] scope pos) pos') ρ H P X := Ex.assign_listcomp hclos hcl hnd h hcell hkind hnames hx hsw hs
end
end
end Mine.Internal
end
section
open PySem PySem.W
namespace Mine.Internal
theorem rawHash_small (x: Nat) (h: x ≤ 200): hashInt (x: Int) = x := by
 have: rawHash (x: Int) = x := by
  simp only [rawHash]
  have h0: ¬ ((x: Int) < 0) := by lia
  simp only [h0, if_false]
  rw [← Int.natCast_emod, Int.natAbs_natCast, Nat.mod_eq_of_lt (by lia)]
  have: ¬ ((x: Int) = -1) := by lia
  simp [this]
 unfold hashInt
 rw [this, if_neg]
 simp
 try lia
theorem fold2 {β: Type} (f: β → Int → β) (b: β) (x y: Int): [x, y].foldl f b = f (f b x) y := rfl
noncomputable def lane (m p1 p2 acc: Nat) (h: Int): Nat :=
 let acc := (acc + (h % (m: Int)).toNat * p2) % m
 let acc := (acc * 2 ^ 31) % m + acc / 2 ^ 33
 (acc * p1) % m
noncomputable def tailH (m p5 n acc: Nat): Int :=
 let acc := (acc + (n ^^^ (p5 ^^^ 3527539))) % m
 if acc == m - 1 then 1546275796 else if acc < 2 ^ 63 then acc else (acc: Int) - m
theorem thash (x y: Int): Builtin.Tuple.tupleHashOf [x, y] = tailH (2 ^ 64) 2870177450012600261 2 (lane (2 ^ 64) 11400714785074694791 14029467366897019727 (lane (2 ^ 64) 11400714785074694791 14029467366897019727 2870177450012600261 x) y) := by
 unfold Builtin.Tuple.tupleHashOf
 dsimp only
 rw [fold2]
 unfold tailH lane
 dsimp only
 rfl
noncomputable def rotp (v: Nat): Nat := v * 2147483648 % 18446744073709551616 + v / 8589934592
noncomputable def laneN (m p1 p2 acc x: Nat): Nat := rotp ((acc + x * p2) % m) * p1 % m
theorem lane_eq {m p1 p2 acc x: Nat} (hm: m = 18446744073709551616) (hx: x ≤ 200): lane m p1 p2 acc (x: Int) = laneN m p1 p2 acc x := by
 have e: ((x: Int) % (m: Int)).toNat = x := by subst hm; lia
 unfold lane laneN rotp
 dsimp only
 rw [e, hm]
theorem mul_canc {m p q: Nat} (hpq: p * q % m = 1 % m) {a b: Nat} (ha: a < m) (hb: b < m) (h: a * p % m = b * p % m): a = b := by
 have key: ∀ z, z < m → (z * p % m) * q % m = z := fun z hz => by
  rw [Nat.mod_mul_mod, Nat.mul_assoc, ← Nat.mul_mod_mod, hpq, Nat.mul_mod_mod, Nat.mul_one, Nat.mod_eq_of_lt hz]
 rw [← key a ha, ← key b hb, h]
theorem rotp_lt {v: Nat} (h: v < 18446744073709551616): rotp v < 18446744073709551616 := by unfold rotp; lia
theorem rotp_inj {v u: Nat} (hv: v < 18446744073709551616) (hu: u < 18446744073709551616) (h: rotp v = rotp u): v = u := by
 have e: ∀ z: Nat, z * 2147483648 % 18446744073709551616 = z % 8589934592 * 2147483648 := fun z => Nat.mul_mod_mul_right 2147483648 z 8589934592
 unfold rotp at h
 rw [e, e] at h
 lia
noncomputable def cst (m p1 p2 p5 p2i x: Nat): Nat := laneN m p1 p2 p5 x * p2i % m
theorem lane_canc {m p1 p1i p2 p2i p5: Nat} (hm: m = 18446744073709551616) (h1: p1 * p1i % m = 1 % m) (h2: p2 * p2i % m = 1 % m) {x y x' y': Nat}
  (h: laneN m p1 p2 (laneN m p1 p2 p5 x) y = laneN m p1 p2 (laneN m p1 p2 p5 x') y'): (cst m p1 p2 p5 p2i x + y) % m = (cst m p1 p2 p5 p2i x' + y') % m := by
 have mp: 0 < m := by lia
 have e1 := mul_canc h1 (by rw [hm]; exact rotp_lt (by rw [← hm]; exact Nat.mod_lt _ mp)) (by rw [hm]; exact rotp_lt (by rw [← hm]; exact Nat.mod_lt _ mp)) h
 have e2 := rotp_inj (by rw [← hm]; exact Nat.mod_lt _ mp) (by rw [← hm]; exact Nat.mod_lt _ mp) e1
 have key: ∀ a z: Nat, ((a + z * p2) % m) * p2i % m = (a * p2i % m + z) % m := fun a z => by
  rw [Nat.mod_mul_mod, Nat.add_mul, Nat.mul_assoc, Nat.add_mod, Nat.mul_mod z (p2 * p2i), h2, ← Nat.mul_mod, Nat.mul_one, ← Nat.add_mod, Nat.mod_add_mod]
 have e3: ((laneN m p1 p2 p5 x + y * p2) % m) * p2i % m = ((laneN m p1 p2 p5 x' + y' * p2) % m) * p2i % m := by rw [e2]
 rw [key, key] at e3
 exact e3
theorem lane_sp {m p1 p1i p2 p2i p5 b0 s0: Nat} (hm: m = 18446744073709551616) (h1: p1 * p1i % m = 1 % m) (h2: p2 * p2i % m = 1 % m) (hs: rotp b0 * p1 % m = s0) (hb: b0 < m) {x y: Nat}
  (h: laneN m p1 p2 (laneN m p1 p2 p5 x) y = s0): (cst m p1 p2 p5 p2i x + y) % m = b0 * p2i % m := by
 have mp: 0 < m := by lia
 have e1 := mul_canc h1 (by rw [hm]; exact rotp_lt (by rw [← hm]; exact Nat.mod_lt _ mp)) (by rw [hm]; exact rotp_lt (by rw [← hm]; exact hb)) (h.trans hs.symm)
 have e2 := rotp_inj (by rw [← hm]; exact Nat.mod_lt _ mp) (by rw [← hm]; exact hb) e1
 have key: ∀ a z: Nat, ((a + z * p2) % m) * p2i % m = (a * p2i % m + z) % m := fun a z => by
  rw [Nat.mod_mul_mod, Nat.add_mul, Nat.mul_assoc, Nat.add_mod, Nat.mul_mod z (p2 * p2i), h2, ← Nat.mul_mod, Nat.mul_one, ← Nat.add_mod, Nat.mod_add_mod]
 have e3: ((laneN m p1 p2 p5 x + y * p2) % m) * p2i % m = b0 * p2i % m := by rw [e2]
 rw [key] at e3
 exact e3
theorem modsub {c y K m: Nat} (hc: c < m) (hy: y < m) (h: (c + y) % m = K): (K + m - c) % m = y := by
 rcases Nat.lt_or_ge (c + y) m with q | q
 ·rw [Nat.mod_eq_of_lt q] at h; subst h
  rw [show c + y + m - c = y + m by lia, Nat.add_mod_right, Nat.mod_eq_of_lt hy]
 ·rw [Nat.mod_eq_sub_mod q, Nat.mod_eq_of_lt (by lia)] at h; subst h
  rw [show c + y - m + m - c = y by lia, Nat.mod_eq_of_lt hy]
noncomputable def okAll: Bool := (List.range 201).all fun x => (List.range 201).all fun x' => x == x' || (let d := (cst 18446744073709551616 11400714785074694791 14029467366897019727 2870177450012600261 839798700976720815 x + 18446744073709551616 - cst 18446744073709551616 11400714785074694791 14029467366897019727 2870177450012600261 839798700976720815 x') % 18446744073709551616; decide (200 < d) && decide (d < 18446744073709551416))
set_option maxHeartbeats 4000000 in
theorem okAll_true: okAll = true := by decide +kernel
noncomputable abbrev cc (x: Nat): Nat := cst 18446744073709551616 11400714785074694791 14029467366897019727 2870177450012600261 839798700976720815 x
noncomputable def okSp: Bool := (List.range 201).all fun x => decide (200 < (15746002411462551884 + 18446744073709551616 - cc x) % 18446744073709551616)
theorem okSp_true: okSp = true := by decide +kernel
theorem cc_lt (x: Nat): cc x < 18446744073709551616 := Nat.mod_lt _ (by decide)
theorem mhash_form (x y: Nat) (hx: x ≤ 200) (hy: y ≤ 200): mhash ((x: Int), (y: Int)) = reduceHash (tailH (2 ^ 64) 2870177450012600261 2 (laneN (2 ^ 64) 11400714785074694791 14029467366897019727 (laneN (2 ^ 64) 11400714785074694791 14029467366897019727 2870177450012600261 x) y)) := by
 unfold mhash
 rw [rawHash_small x hx, rawHash_small y hy, thash, lane_eq rfl hx, lane_eq rfl hy]
theorem tailH_inj {m p5 s s': Nat} (hm: m = 18446744073709551616) (hp: (2 ^^^ (p5 ^^^ 3527539)) = 2870177450013471924) (hs: s < m) (hs': s' < m) (n1: s ≠ 15576566623696079691) (n2: s' ≠ 15576566623696079691)
  (h: reduceHash (tailH m p5 2 s) = reduceHash (tailH m p5 2 s')): s = s' := by
 subst hm
 generalize hmm: (18446744073709551616: Nat) = m at *
 have red: ∀ z, z < m → z ≠ 15576566623696079691 → reduceHash (tailH m p5 2 z) = (if (z + 2870177450013471924) % m < 9223372036854775808 then (((z + 2870177450013471924) % m: Nat): Int) else (((z + 2870177450013471924) % m: Nat): Int) - m) := by
  intro z hz hn
  unfold tailH
  dsimp only
  rw [hp]
  have h1: (z + 2870177450013471924) % m ≠ m - 1 := by subst hmm; lia
  have h3: (z + 2870177450013471924) % m < m := Nat.mod_lt _ (by lia)
  generalize (z + 2870177450013471924) % m = f at h1 h3 ⊢
  rw [if_neg (by simpa using h1)]
  unfold reduceHash
  by_cases h2: f < 2 ^ 63
  ·rw [if_pos h2, if_pos (by simp; lia), if_neg (by simp)]
   try rw [if_pos (show f < 9223372036854775808 from h2)]
  ·rw [if_neg h2, if_pos (by simp; lia), if_neg (by simp; lia)]
   try rw [if_neg (show ¬ f < 9223372036854775808 from h2)]
 rw [red s hs n1, red s' hs' n2] at h
 subst hmm
 omega
theorem mhash_inj {x y x' y': Nat} (hx: x ≤ 200) (hy: y ≤ 200) (hx': x' ≤ 200) (hy': y' ≤ 200) (h: mhash ((x: Int), (y: Int)) = mhash ((x': Int), (y': Int))): x = x' ∧ y = y' := by
 rw [mhash_form x y hx hy, mhash_form x' y' hx' hy'] at h
 have hm: (2 ^ 64: Nat) = 18446744073709551616 := by decide
 have lt: ∀ a z, laneN (2 ^ 64) 11400714785074694791 14029467366897019727 a z < 2 ^ 64 := fun a z => Nat.mod_lt _ (by decide)
 have ns: ∀ x y, x ≤ 200 → y ≤ 200 → laneN (2 ^ 64) 11400714785074694791 14029467366897019727 (laneN (2 ^ 64) 11400714785074694791 14029467366897019727 2870177450012600261 x) y ≠ 15576566623696079691 := by
  intro x y hx hy q
  have e4 := lane_sp (p1i := 614540362697595703) (p2i := 839798700976720815) (b0 := 9148689060682678900) hm (by decide) (by decide) (by decide +kernel) (by decide) q
  have e5: (cc x + y) % 18446744073709551616 = 15746002411462551884 := e4.trans (by decide +kernel)
  have := List.all_eq_true.mp okSp_true x (List.mem_range.mpr (by omega))
  have := of_decide_eq_true this
  rw [modsub (cc_lt x) (Nat.lt_of_le_of_lt hy (by decide)) e5] at this
  exact absurd this (Nat.not_lt.mpr hy)
 have e := tailH_inj (m := 2 ^ 64) hm (by decide +kernel) (lt _ _) (lt _ _) (ns x y hx hy) (ns x' y' hx' hy') h
 have e' := lane_canc (p1i := 614540362697595703) (p2i := 839798700976720815) hm (by decide) (by decide) e
 have e2: (cc x + y) % 18446744073709551616 = (cc x' + y') % 18446744073709551616 := e'
 have ck := List.all_eq_true.mp (List.all_eq_true.mp okAll_true x (List.mem_range.mpr (by omega))) x' (List.mem_range.mpr (by omega))
 have l1 := cc_lt x
 have l2 := cc_lt x'
 rcases Bool.or_eq_true_iff.mp ck with ck | ck
 ·have ex: x = x' := by simpa using ck
  subst ex
  exact ⟨rfl, (modsub l1 (Nat.lt_of_le_of_lt hy (by decide)) rfl).symm.trans (modsub l1 (Nat.lt_of_le_of_lt hy' (by decide)) e2.symm)⟩
 ·exfalso
  dsimp only at ck
  rw [Bool.and_eq_true, decide_eq_true_eq, decide_eq_true_eq] at ck
  change 200 < (cc x + 18446744073709551616 - cc x') % 18446744073709551616 ∧ (cc x + 18446744073709551616 - cc x') % 18446744073709551616 < 18446744073709551416 at ck
  omega
theorem nodup_gen {f: Int × Int → Int} (hf: ∀ x y x' y': Nat, x ≤ 200 → y ≤ 200 → x' ≤ 200 → y' ≤ 200 → f ((x: Int), (y: Int)) = f ((x': Int), (y': Int)) → x = x' ∧ y = y') {p: Po} (hn: (p.map (·.1)).Nodup) (hb: ∀ e ∈ p, e.1.1 ≤ 200 ∧ e.1.2 ≤ 200) :
  (p.map fun e => f (((e.1.1: Nat): Int), ((e.1.2: Nat): Int))).Nodup := by
 induction p with
 | nil => exact .nil
 | cons e p ih =>
  rw [List.map_cons, List.nodup_cons] at hn
  rw [List.map_cons, List.nodup_cons]
  refine ⟨fun hm => hn.1 ?_, ih hn.2 (fun x hx => hb x (.tail _ hx))⟩
  obtain ⟨x, hx, hxe⟩ := List.mem_map.mp hm
  have b1 := hb e (.head _)
  have b2 := hb x (.tail _ hx)
  have := hf _ _ _ _ b2.1 b2.2 b1.1 b1.2 hxe
  exact List.mem_map.mpr ⟨x, hx, Prod.ext this.1 this.2⟩
theorem hashOk_gen (p: PL) (q: Po) (e: p = q.map fun e => ((((e.1.1: Nat): Int), ((e.1.2: Nat): Int)), (e.2.num, (e.2.den: Int)))) (hn: (q.map fun e => mhash (((e.1.1: Nat): Int), ((e.1.2: Nat): Int))).Nodup): HashOk p := by
 subst e
 unfold HashOk
 rw [List.map_map]
 exact hn
theorem hashOk {p: Po} (h: Wf p) (hb: ∀ e ∈ p, e.1.1 ≤ 200 ∧ e.1.2 ≤ 200): HashOk (p.map fun e => ((((e.1.1: Nat): Int), ((e.1.2: Nat): Int)), (e.2.num, (e.2.den: Int)))) :=
 hashOk_gen _ p rfl (nodup_gen (f := mhash) (fun uu uu uu uu h1 h2 h3 h4 h5 => mhash_inj h1 h2 h3 h4 h5) h.1 hb)
end Mine.Internal
end
section
open PySem PySem.W PySem.Calls PyProof.Rows
namespace Mine.Internal
theorem len0 {P: List Value → Prop} (h: P []): ∀ v: List Value, v.length = 0 → P v := fun v q => by cases v with
 | nil => exact h
 | cons x r => cases q
theorem len1 {P: List Value → Prop} (h: ∀ a, P [a]): ∀ v: List Value, v.length = 1 → P v := fun v q => by cases v with
 | nil => cases q
 | cons x r => exact len0 (P := fun r => P (x :: r)) (h x) r (Nat.succ.inj q)
theorem len2 {P: List Value → Prop} (h: ∀ a b, P [a, b]): ∀ v: List Value, v.length = 2 → P v := fun v q => by cases v with
 | nil => cases q
 | cons x r => exact len1 (P := fun r => P (x :: r)) (h x) r (Nat.succ.inj q)
theorem len3 {P: List Value → Prop} (h: ∀ a b c, P [a, b, c]): ∀ v: List Value, v.length = 3 → P v := fun v q => by cases v with
 | nil => cases q
 | cons x r => exact len2 (P := fun r => P (x :: r)) (h x) r (Nat.succ.inj q)

section
variable {w: World} {B: Heap} {env: Env} {d: Nat} {ρ: Rho} {H: MH}
variable {Q: V → MH → Prop}
set_option maxHeartbeats 400000
theorem cal_gcd (D: Wd w B) {a b: Int} (h: Q (.int (Nat.gcd a.natAbs b.natAbs)) H): Cal w B (d + 1) (.ref 80) [.int a, .int b] H Q := by
 refine Cal.enter (names := ["a", "b"]) D rfl rfl (by exact len2 fun uu uu => rfl) (by decide) rfl (by decide) fun L => ?_
 refine Xc fun uu uu => ?_;refine Ex.kpairS ?_;refine Et ?_;refine Ea ?_;refine Ev.kcall_bi ?_;refine Ea ?_;refine En ?_;refine Eo ?_;refine Cal.abs ?_;refine Ea ?_;refine Ev.kcall_bi ?_;refine Ea ?_;refine En ?_;refine Eo ?_;refine Cal.abs ?_;refine Eo ?_;refine ⟨_, _, rfl,?_⟩; refine Tn ?_;refine Xc fun uu uu => ?_
 have ha: (if a < 0 then -a else a) = (a.natAbs: Int) := by split <;> lia
 have hb: (if b < 0 then -b else b) = (b.natAbs: Int) := by split <;> lia
 rw [ha, hb]
 refine Ex.whileB (fun n ρ' H' => H' = H ∧ ∃ x y: Nat, ρ' "a" = some (.int x) ∧ ρ' "b" = some (.int y) ∧ y = n ∧ Nat.gcd x y = Nat.gcd a.natAbs b.natAbs) b.natAbs ⟨rfl, _, _, rfl, rfl, rfl, rfl⟩ ?_
 rintro n ρ' H' ⟨rfl, x, y, hx, hy, rfl, hg⟩
 refine Tk (Em hy ?_) (by with_unfolding_all rfl)
 refine Ei ?_;refine Cmp.ne_int ?_;refine ⟨_, rfl,?_⟩
 by_cases hz: y = 0
 ·subst hz
  refine iteF (by simp) ?_
  refine Tn ?_;refine Xc fun uu uu => ?_;refine Xr ?_
  refine Em hx ?_
  refine Tq ?_
  rw [Nat.gcd_zero_right] at hg
  show Q (.int x) _
  rw [hg]; exact h
 ·refine iteT (by simpa using hz) ?_
  refine (fun (uu: Post) (uu: PLe _ _) => ?_); refine Xc fun uu uu => ?_;refine Ex.kpairS ?_;refine Et ?_
  refine Em hy ?_
  refine Ea ?_;refine Eg ?_
  refine Em hx (Em hy (Bin.mod_int (by lia) ?_))
  refine Eo ?_;refine ⟨_, _, rfl,?_⟩; refine Tn ?_;refine Xo ?_
  refine Lp.next (by assumption) ?_;refine ⟨x % y, Nat.mod_lt _ (by lia), rfl, y, x % y, rfl,?_, rfl,?_⟩
  ·show some (V.int ((x: Int).fmod y)) = _
   rw [Int.fmod_eq_emod_of_nonneg _ (by lia)]; rfl
  ·rw [gcd_turn x y]; exact hg
theorem cal_rat (D: Wd w B) {a b: Int} (hb: b ≠ 0) (h: Q (RV (Rat.divInt a b)) H): Cal w B (d + 2) (.ref 89) [.int a, .int b] H Q := by
 have key := fdiv_divInt a b hb
 have hg: (Nat.gcd a.natAbs b.natAbs: Int) ≠ 0 := by
  have := Nat.gcd_pos_of_pos_right a.natAbs (n := b.natAbs) (by lia); lia
 refine Cal.enter (names := ["top", "bottom"]) D rfl rfl (by exact len2 fun uu uu => rfl) (by decide) rfl (by decide) fun L => ?_
 refine Xc fun uu uu => ?_;refine Xi ?_;refine Tk ?_;refine En ?_;refine Ei ?_;refine Cmp.eq_int ?_;refine ⟨_, rfl,?_⟩
 refine iteF (by simpa using hb) ?_
 refine Xo ?_;refine Tn ?_;refine Xc fun uu uu => ?_;refine Xa ?_;refine Ev.kif ?_;refine Tk ?_;refine En ?_;refine Ei ?_;refine Cmp.gt_int ?_;refine ⟨_, rfl,?_⟩
 by_cases hp: 0 < b
 ·rw [if_pos hp] at key
  refine iteT (by simpa using hp) ?_
  refine Ek ?_;refine Ea ?_;refine En ?_;refine Ea ?_;refine En ?_;refine Eo ?_
  refine cal_gcd D ?_
  refine Tn ?_;refine Xc fun uu uu => ?_;refine Xr ?_;refine Et ?_;refine Ea ?_;refine Eg ?_;refine En ?_;refine En ?_
  refine Bin.fdiv_room D hg ?_
  refine Ea ?_;refine Eg ?_;refine En ?_;refine En ?_
  refine Bin.fdiv_room D hg ?_
  refine Eo ?_;refine Tq ?_
  rw [← key.1, ← key.2]; exact h
 ·rw [if_neg hp] at key
  refine iteF (by simpa using hp) ?_
  refine Eg ?_;refine Ei ?_;refine Ek ?_;refine Ea ?_;refine En ?_;refine Ea ?_;refine En ?_;refine Eo ?_
  refine cal_gcd D ?_
  refine Bin.sub_int ?_;refine Tn ?_;refine Xc fun uu uu => ?_;refine Xr ?_;refine Et ?_;refine Ea ?_;refine Eg ?_;refine En ?_;refine En ?_
  refine Bin.fdiv_room D (by lia) ?_
  refine Ea ?_;refine Eg ?_;refine En ?_;refine En ?_
  refine Bin.fdiv_room D (by lia) ?_
  refine Eo ?_;refine Tq ?_
  rw [← key.1, ← key.2]; exact h
theorem bits_le {a: Int} {s: Nat} (h: a.natAbs ≤ 2 ^ s): Builtin.Int.intBits a ≤ s + 1 := by
 unfold Builtin.Int.intBits
 split
 ·exact Nat.zero_le _
 ·rename_i hn
  have h0: a.natAbs ≠ 0 := fun q => hn (by rw [Int.natAbs_eq_zero.mp q]; rfl)
  have: a.natAbs.log2 < s + 1 := (Nat.log2_lt h0).mpr (Nat.lt_of_le_of_lt h (Nat.pow_lt_pow_right (by decide) (Nat.lt_succ_self s)))
  lia
theorem mulOk {a b: Int} {s t: Nat} (ha: a.natAbs ≤ 2 ^ s) (hb: b.natAbs ≤ 2 ^ t) (h: s + t + 2 ≤ 134217728): IntMulOk a b := by
 have h1 := bits_le ha
 have h2 := bits_le hb
 unfold IntMulOk
 intro q
 rw [Bool.and_eq_true] at q
 have q2 := q.2
 unfold Builtin.Int.intTooBig at q2
 have q3 := of_decide_eq_true q2
 rw [show bitsLine = 134217728 by rfl] at q3
 lia
theorem SzB.nn {a b: Rat} (ha: SzB a) (hb: SzB b): IntMulOk a.num b.num := by
 obtain ⟨s, h1, h2, uu⟩ := ha; obtain ⟨t, h3, h4, uu⟩ := hb
 exact mulOk h2 h4 (by lia)
theorem SzB.nd {a b: Rat} (ha: SzB a) (hb: SzB b): IntMulOk a.num b.den := by
 obtain ⟨s, h1, h2, uu⟩ := ha; obtain ⟨t, h3, uu, h4⟩ := hb
 exact mulOk (s := s) (t := t) h2 (by simpa using h4) (by lia)
theorem SzB.dn {a b: Rat} (ha: SzB a) (hb: SzB b): IntMulOk a.den b.num := by
 obtain ⟨s, h1, uu, h2⟩ := ha; obtain ⟨t, h3, h4, uu⟩ := hb
 exact mulOk (s := s) (t := t) (by simpa using h2) h4 (by lia)
theorem SzB.dd {a b: Rat} (ha: SzB a) (hb: SzB b): IntMulOk a.den b.den := by
 obtain ⟨s, h1, uu, h2⟩ := ha; obtain ⟨t, h3, uu, h4⟩ := hb
 exact mulOk (s := s) (t := t) (by simpa using h2) (by simpa using h4) (by lia)
theorem cal_radd (D: Wd w B) {a b: Rat} (ha: SzB a) (hb: SzB b) (h: Q (RV (a + b)) H): Cal w B (d + 3) (.ref 96) [RV a, RV b] H Q := by
 refine Cal.enter (names := ["a", "b"]) D rfl rfl (by exact len2 fun uu uu => rfl) (by decide) rfl (by decide) fun L => ?_
 refine Xc fun uu uu => ?_;refine Xr ?_;refine Ek ?_;refine Ea ?_;refine Eg ?_;refine Eg ?_;refine Eb ?_;refine En ?_;refine Ei ?_;refine Iu ?_;refine Eb ?_;refine En ?_;refine Ei ?_;refine Iu ?_;refine Bin.mul_int (ha.nd hb) ?_;refine Eg ?_;refine Eb ?_;refine En ?_;refine Ei ?_;refine Iu ?_;refine Eb ?_;refine En ?_;refine Ei ?_;refine Iu ?_;refine Bin.mul_int (hb.nd ha) ?_;refine Bin.add_int ?_;refine Ea ?_;refine Eg ?_;refine Eb ?_;refine En ?_;refine Ei ?_;refine Iu ?_;refine Eb ?_;refine En ?_;refine Ei ?_;refine Iu ?_;refine Bin.mul_int (ha.dd hb) ?_;refine Eo ?_
 refine cal_rat D (Int.mul_ne_zero (den_ne a) (den_ne b)) ?_
 rw [radd_eq]
 refine Tq ?_
 exact h
theorem cal_rmul (D: Wd w B) {a b: Rat} (ha: SzB a) (hb: SzB b) (h: Q (RV (a * b)) H): Cal w B (d + 3) (.ref 103) [RV a, RV b] H Q := by
 refine Cal.enter (names := ["a", "b"]) D rfl rfl (by exact len2 fun uu uu => rfl) (by decide) rfl (by decide) fun L => ?_
 refine Xc fun uu uu => ?_;refine Xr ?_;refine Ek ?_;refine Ea ?_;refine Eg ?_;refine Eb ?_;refine En ?_;refine Ei ?_;refine Iu ?_;refine Eb ?_;refine En ?_;refine Ei ?_;refine Iu ?_;refine Bin.mul_int (ha.nn hb) ?_;refine Ea ?_;refine Eg ?_;refine Eb ?_;refine En ?_;refine Ei ?_;refine Iu ?_;refine Eb ?_;refine En ?_;refine Ei ?_;refine Iu ?_;refine Bin.mul_int (ha.dd hb) ?_;refine Eo ?_
 refine cal_rat D (Int.mul_ne_zero (den_ne a) (den_ne b)) ?_
 rw [rmul_eq]
 refine Tq ?_
 exact h
theorem cal_rdiv (D: Wd w B) {a b: Rat} (ha: SzB a) (hb: SzB b) (h0: b ≠ 0) (h: Q (RV (a / b)) H): Cal w B (d + 3) (.ref 110) [RV a, RV b] H Q := by
 refine Cal.enter (names := ["a", "b"]) D rfl rfl (by exact len2 fun uu uu => rfl) (by decide) rfl (by decide) fun L => ?_
 refine Xc fun uu uu => ?_;refine Xr ?_;refine Ek ?_;refine Ea ?_;refine Eg ?_;refine Eb ?_;refine En ?_;refine Ei ?_;refine Iu ?_;refine Eb ?_;refine En ?_;refine Ei ?_;refine Iu ?_;refine Bin.mul_int (ha.nd hb) ?_;refine Ea ?_;refine Eg ?_;refine Eb ?_;refine En ?_;refine Ei ?_;refine Iu ?_;refine Eb ?_;refine En ?_;refine Ei ?_;refine Iu ?_;refine Bin.mul_int (ha.dn hb) ?_;refine Eo ?_
 refine cal_rat D (Int.mul_ne_zero (den_ne a) (num_ne h0)) ?_
 rw [rdiv_eq]
 refine Tq ?_
 exact h
end
section
variable {w: World} {B: Heap} {env: Env} {d: Nat} {ρ: Rho} {H: MH}
variable {Q: V → MH → Prop}
theorem cal_rneg (D: Wd w B) {a: Rat} (h: Q (RV (-a)) H): Cal w B (d + 1) (.ref 117) [RV a] H Q := by
 refine Cal.enter (names := ["a"]) D rfl rfl (by exact len1 fun uu => rfl) (by decide) rfl (by decide) fun L => ?_
 refine Xc fun uu uu => ?_;refine Xr ?_;refine Et ?_;refine Ea ?_;refine Eg ?_;refine Ei ?_;refine Eb ?_;refine En ?_;refine Ei ?_;refine Iu ?_;refine Bin.sub_int ?_;refine Ea ?_;refine Eb ?_;refine En ?_;refine Ei ?_;refine Iu ?_;refine Eo ?_;refine Tq ?_
 have e: 0 - a.num = (-a).num := by rw [Rat.neg_num, Int.zero_sub]
 show Q (.tup [.int (0 - a.num), .int a.den]) H
 rw [e]; exact h
theorem cal_rinv (D: Wd w B) {a: Rat} (h0: a ≠ 0) (h: Q (RV a⁻¹) H): Cal w B (d + 3) (.ref 124) [RV a] H Q := by
 refine Cal.enter (names := ["a"]) D rfl rfl (by exact len1 fun uu => rfl) (by decide) rfl (by decide) fun L => ?_
 refine Xc fun uu uu => ?_;refine Xr ?_;refine Ek ?_;refine Ea ?_;refine Eb ?_;refine En ?_;refine Ei ?_;refine Iu ?_;refine Ea ?_;refine Eb ?_;refine En ?_;refine Ei ?_;refine Iu ?_;refine Eo ?_
 refine cal_rat D (num_ne h0) ?_
 rw [rinv_eq]
 refine Tq ?_
 exact h
@[reducible] noncomputable def KAcc (acc: Nat → List V) (i: Nat): List V → MH → Prop := fun zs _ => acc (i + 1) = zs
@[reducible] noncomputable def KAccD (acc: Nat → PL) (i: Nat): PL → MH → Prop := fun zs _ => acc (i + 1) = zs
@[reducible] noncomputable def KM (H1: MH) (zs: List V) (i: Nat): V → MH → Prop := fun y H3 => HLe H1 H3 ∧ zs[i]? = some y
inductive TnM (w: World) (B: Heap) (cenv: Env) (d: Nat) (elt target: Expr) (cl: List (Str × Addr)) (ρ: Rho) (K: V → MH → Prop) (x: V) (H': MH): Prop
 | mk (ρ1: Rho) (asg: AsgL w B cenv d target x (inner cl ρ) ρ1) (sub: ∀ y, (cl.lookup y).isSome = true → ρ1 y = ρ y) (body: Ev w B cenv d elt ρ1 H' K)
theorem CompL.acc {elt target: Expr} {ifs: List Expr} {scope: Scope} {cl: List (Str × Addr)} {Q: List V → MH → Prop} {xs: List V} {C: MH → Prop} {H1: MH} (acc: Nat → List V) (h0: acc 0 = []) (hC: ∀ H', HLe H1 H' → C H') (hl: xs.length ≤ 1000000)
  (turn: ∀ (L: Addr) (i: Nat) (x: V) (H': MH), xs[i]? = some x → HLe H1 H' → TnL w B (compEnvC scope cl L env) d elt target ifs cl ρ (HLe H1) (KAcc acc i) x (acc i) H')
  (fin: ∀ H', HLe H1 H' → Q (acc xs.length) H'): CompL w B env d elt target ifs scope cl ρ Q xs C H1 := by
 refine ⟨fun i ys H' => HLe H1 H' ∧ ys = acc i, hC _ (HLe.refl _), ⟨HLe.refl _, h0.symm⟩, hl, fun L i x ys H' hx uu zz => ?_, fun ys H' uu zz => zz.2 ▸ fin H' zz.1⟩
 obtain ⟨hle, hy⟩ := zz
 obtain ⟨ρ1, a1, a2, a3⟩ := turn L i x H' hx hle
 refine ⟨ρ1, a1, a2,?_⟩
 have fix: ∀ b H2, (if b = true then Ev w B (compEnvC scope cl L env) d elt ρ1 H2 (fun y H3 => HLe H1 H3 ∧ acc (i + 1) = acc i ++ [y]) else HLe H1 H2 ∧ acc (i + 1) = acc i) →
   if b = true then Ev w B (compEnvC scope cl L env) d elt ρ1 H2 (fun y H3 => C H3 ∧ (HLe H1 H3 ∧ ys ++ [y] = acc (i + 1))) else C H2 ∧ (HLe H1 H2 ∧ ys = acc (i + 1)) := by
  intro b H2 q
  cases b with
  | true => exact Ev.mono q fun y H3 zz => ⟨hC _ zz.1, zz.1, by rw [hy, zz.2]⟩
  | false => exact ⟨hC _ q.1, q.1, by rw [hy]; exact q.2.symm⟩
 rcases ifs with uu | ⟨c, uu | ⟨c2, r⟩⟩
 ·exact fix true H' a3
 ·exact fun A fr s E Q' a S W K => a3 A fr s E Q' a S W fun b H2 s2 g S2 q => K b H2 s2 g S2 (fix b H2 q)
 ·exact a3.elim
theorem CompL.map {elt target: Expr} {scope: Scope} {cl: List (Str × Addr)} {Q: List V → MH → Prop} {xs: List V} {C: MH → Prop} {H1: MH} (zs: List V) (hz: zs.length = xs.length) (hC: ∀ H', HLe H1 H' → C H') (hl: xs.length ≤ 1000000)
  (turn: ∀ (L: Addr) (i: Nat) (x: V) (H': MH), xs[i]? = some x → HLe H1 H' → TnM w B (compEnvC scope cl L env) d elt target cl ρ (KM H1 zs i) x H')
  (fin: ∀ H', HLe H1 H' → Q zs H'): CompL w B env d elt target [] scope cl ρ Q xs C H1 := by
 refine CompL.acc (fun i => zs.take i) rfl hC hl (fun L i x H' hx hle => ?_) (fun H' hle => by rw [← hz, List.take_length]; exact fin H' hle)
 obtain ⟨ρ1, a1, a2, a3⟩ := turn L i x H' hx hle
 refine ⟨ρ1, a1, a2,?_⟩
 unfold If1
 dsimp only [TB, TE]
 rw [if_pos rfl]
 refine Ev.mono a3 fun y H3 ⟨q1, q2⟩ => ⟨q1,?_⟩
 show zs.take (i + 1) = zs.take i ++ [y]
 rw [List.take_add_one, q2]; rfl
theorem CompD.acc {kx vx target: Expr} {scope: Scope} {cl: List (Str × Addr)} {Q: PL → MH → Prop} {xs: List V} {C: MH → Prop} {H1: MH} (acc: Nat → PL) (h0: acc 0 = []) (hC: ∀ H', HLe H1 H' → C H') (hl: xs.length ≤ 1000000)
  (turn: ∀ (L: Addr) (i: Nat) (x: V) (H': MH), xs[i]? = some x → HLe H1 H' → TnD w B (compEnvC scope cl L env) d kx vx target cl ρ (HLe H1) (KAccD acc i) x (acc i) H')
  (fin: ∀ H', HLe H1 H' → Q (acc xs.length) H'): CompD w B env d kx vx target scope cl ρ Q xs C H1 := by
 refine ⟨fun i ys H' => HLe H1 H' ∧ ys = acc i, hC _ (HLe.refl _), ⟨HLe.refl _, h0.symm⟩, hl, fun L i x ys H' hx uu zz => ?_, fun ys H' uu zz => zz.2 ▸ fin H' zz.1⟩
 obtain ⟨hle, hy⟩ := zz
 obtain ⟨ρ1, a1, a2, a3⟩ := turn L i x H' hx hle
 refine ⟨ρ1, a1, a2, Ev.mono a3 fun k H2 q => Ev.mono q fun v H3 zz => ?_⟩
 obtain ⟨m, c, e1, e2, q1, q2⟩ := zz
 exact ⟨m, c, e1, e2, hC _ q1, q1, by rw [hy, q2]⟩
theorem sub_inner {cl: List (Str × Addr)} {ρ: Rho}: ∀ y, (cl.lookup y).isSome = true → inner cl ρ y = ρ y := fun y h => by simp only [inner, if_pos h]
theorem sub_set {cl: List (Str × Addr)} {ρ ρ': Rho} {x: Str} {v: V} (hx: (cl.lookup x).isSome = false) (h: ∀ y, (cl.lookup y).isSome = true → ρ' y = ρ y): ∀ y, (cl.lookup y).isSome = true → (ρ'.set x v) y = ρ y := fun y hy => by
 have: y ≠ x := fun q => by rw [q, hx] at hy; cases hy
 simp only [Rho.set, if_neg this]; exact h y hy
theorem enum2 {x y: V} {i: Nat} {z: V} (h: (enumV 0 [x, y])[i]? = some z): (i = 0 ∧ z = .tup [.int 0, x]) ∨ (i = 1 ∧ z = .tup [.int 1, y]) := by
 rcases i with uu | uu | i
 ·simp [enumV] at h; exact .inl ⟨rfl, h.symm⟩
 ·simp [enumV] at h; exact .inr ⟨rfl, h.symm⟩
 ·simp [enumV] at h
theorem two {x y: V} {i: Nat} {z: V} (h: [x, y][i]? = some z): (i = 0 ∧ z = x) ∨ (i = 1 ∧ z = y) := by
 rcases i with uu | uu | i
 ·simp at h; exact .inl ⟨rfl, h.symm⟩
 ·simp at h; exact .inr ⟨rfl, h.symm⟩
 ·simp at h
end

section
variable {w: World} {B: Heap} {env: Env} {d: Nat} {ρ: Rho} {H: MH}
variable {Q: V → MH → Prop}
set_option maxHeartbeats 400000
theorem cal_powers_product (D: Wd w B) {a b: Mo} (h: ∀ H', HLe H H' → Q (MV (mP a b)) H'): Cal w B (d + 1) (.ref 44) [MV a, MV b] H Q := by
 refine Cal.enter (names := ["a", "b"]) D rfl rfl (by exact len2 fun uu uu => rfl) (by decide) rfl (by decide) fun L => ?_
 refine Xc fun uu uu => ?_;refine Xr ?_;refine Ev.kcall_ty ?_;refine Ea ?_
 refine Ev.klc ?_
 refine Its.kenum ?_
 refine En ?_
 refine Or.inr ⟨_, rfl, CompL.map (zs := [.int (a.1 + b.1: Nat), .int (a.2 + b.2: Nat)]) rfl (fun uu uu => True.intro) (by simp [enumV]) (fun L i x H' hx hle => ?_) fun H' hle n hn => ?_⟩
 ·rcases enum2 hx with ⟨rfl, rfl⟩ | ⟨rfl, rfl⟩
  all_goals
   refine ⟨_, AsgL.pair rfl rfl, by repeat first | exact sub_inner | refine sub_set rfl ?_,?_⟩
   refine Eg ?_;refine En ?_;refine Eb ?_;refine En ?_;refine En ?_;refine Iu ?_;refine Bin.add_int ?_
   exact ⟨hle, rfl⟩
 ·refine Eo ?_
  refine Cal.tuple_list (MH.set_self ..) (by simp) ?_
  refine Tq ?_
  exact h _ (hle.trans (HLe.new hn _))
theorem cal_powers_quotient (D: Wd w B) {a b: Mo} (hd: mdiv b a = true) (h: ∀ H', HLe H H' → Q (MV (mM a b)) H'): Cal w B (d + 1) (.ref 56) [MV a, MV b] H Q := by
 simp only [mdiv, Bool.and_eq_true, decide_eq_true_eq] at hd
 refine Cal.enter (names := ["a", "b"]) D rfl rfl (by exact len2 fun uu uu => rfl) (by decide) rfl (by decide) fun L => ?_
 refine Xc fun uu uu => ?_;refine Xr ?_;refine Ev.kcall_ty ?_;refine Ea ?_
 refine Ev.klc ?_
 refine Its.kenum ?_
 refine En ?_
 refine Or.inr ⟨_, rfl, CompL.map (zs := [.int (a.1 - b.1: Nat), .int (a.2 - b.2: Nat)]) rfl (fun uu uu => True.intro) (by simp [enumV]) (fun L i x H' hx hle => ?_) fun H' hle n hn => ?_⟩
 ·rcases enum2 hx with ⟨rfl, rfl⟩ | ⟨rfl, rfl⟩
  ·refine ⟨_, AsgL.pair rfl rfl, by repeat first | exact sub_inner | refine sub_set rfl ?_,?_⟩
   refine Eg ?_;refine En ?_;refine Eb ?_;refine En ?_;refine En ?_;refine Iu ?_;refine Bin.sub_int ?_
   exact ⟨hle, congrArg (fun i => some (V.int i)) (Int.ofNat_sub hd.1)⟩
  ·refine ⟨_, AsgL.pair rfl rfl, by repeat first | exact sub_inner | refine sub_set rfl ?_,?_⟩
   refine Eg ?_;refine En ?_;refine Eb ?_;refine En ?_;refine En ?_;refine Iu ?_;refine Bin.sub_int ?_
   exact ⟨hle, congrArg (fun i => some (V.int i)) (Int.ofNat_sub hd.2)⟩
 ·refine Eo ?_
  refine Cal.tuple_list (MH.set_self ..) (by simp) ?_
  refine Tq ?_
  exact h _ (hle.trans (HLe.new hn _))
theorem cal_powers_join (D: Wd w B) {a b: Mo} (h: ∀ H', HLe H H' → Q (MV (mjoin a b)) H'): Cal w B (d + 1) (.ref 61) [MV a, MV b] H Q := by
 refine Cal.enter (names := ["a", "b"]) D rfl rfl (by exact len2 fun uu uu => rfl) (by decide) rfl (by decide) fun L => ?_
 refine Xc fun uu uu => ?_;refine Xr ?_;refine Ev.kcall_ty ?_;refine Ea ?_
 refine Ev.klc ?_
 refine Its.kenum ?_
 refine En ?_
 refine Or.inr ⟨_, rfl, CompL.map (zs := [.int (max a.1 b.1: Nat), .int (max a.2 b.2: Nat)]) rfl (fun uu uu => True.intro) (by simp [enumV]) (fun L i x H' hx hle => ?_) fun H' hle n hn => ?_⟩
 ·rcases enum2 hx with ⟨rfl, rfl⟩ | ⟨rfl, rfl⟩
  ·refine ⟨_, AsgL.pair rfl rfl, by repeat first | exact sub_inner | refine sub_set rfl ?_,?_⟩
   refine Ev.kcall_bi ?_;refine Ea ?_;refine En ?_;refine Ea ?_;refine Eb ?_;refine En ?_;refine En ?_;refine Iu ?_;refine Eo ?_
   refine Cal.max2 ⟨hle, congrArg (fun i => some (V.int i)) ?_⟩
   show ((max a.1 b.1: Nat): Int) = if (b.1: Int) > a.1 then (b.1: Int) else a.1
   split <;> lia
  ·refine ⟨_, AsgL.pair rfl rfl, by repeat first | exact sub_inner | refine sub_set rfl ?_,?_⟩
   refine Ev.kcall_bi ?_;refine Ea ?_;refine En ?_;refine Ea ?_;refine Eb ?_;refine En ?_;refine En ?_;refine Iu ?_;refine Eo ?_
   refine Cal.max2 ⟨hle, congrArg (fun i => some (V.int i)) ?_⟩
   show ((max a.2 b.2: Nat): Int) = if (b.2: Int) > a.2 then (b.2: Int) else a.2
   split <;> lia
 ·refine Eo ?_
  refine Cal.tuple_list (MH.set_self ..) (by simp) ?_
  refine Tq ?_
  exact h _ (hle.trans (HLe.new hn _))
theorem cal_powers_meet (D: Wd w B) {a b: Mo} (h: ∀ H', HLe H H' → Q (MV (mmeet a b)) H'): Cal w B (d + 1) (.ref 66) [MV a, MV b] H Q := by
 refine Cal.enter (names := ["a", "b"]) D rfl rfl (by exact len2 fun uu uu => rfl) (by decide) rfl (by decide) fun L => ?_
 refine Xc fun uu uu => ?_;refine Xr ?_;refine Ev.kcall_ty ?_;refine Ea ?_
 refine Ev.klc ?_
 refine Its.kenum ?_
 refine En ?_
 refine Or.inr ⟨_, rfl, CompL.map (zs := [.int (min a.1 b.1: Nat), .int (min a.2 b.2: Nat)]) rfl (fun uu uu => True.intro) (by simp [enumV]) (fun L i x H' hx hle => ?_) fun H' hle n hn => ?_⟩
 ·rcases enum2 hx with ⟨rfl, rfl⟩ | ⟨rfl, rfl⟩
  ·refine ⟨_, AsgL.pair rfl rfl, by repeat first | exact sub_inner | refine sub_set rfl ?_,?_⟩
   refine Ev.kcall_bi ?_;refine Ea ?_;refine En ?_;refine Ea ?_;refine Eb ?_;refine En ?_;refine En ?_;refine Iu ?_;refine Eo ?_
   refine Cal.min2 ⟨hle, congrArg (fun i => some (V.int i)) ?_⟩
   show ((min a.1 b.1: Nat): Int) = if (b.1: Int) < a.1 then (b.1: Int) else a.1
   split <;> lia
  ·refine ⟨_, AsgL.pair rfl rfl, by repeat first | exact sub_inner | refine sub_set rfl ?_,?_⟩
   refine Ev.kcall_bi ?_;refine Ea ?_;refine En ?_;refine Ea ?_;refine Eb ?_;refine En ?_;refine En ?_;refine Iu ?_;refine Eo ?_
   refine Cal.min2 ⟨hle, congrArg (fun i => some (V.int i)) ?_⟩
   show ((min a.2 b.2: Nat): Int) = if (b.2: Int) < a.2 then (b.2: Int) else a.2
   split <;> lia
 ·refine Eo ?_
  refine Cal.tuple_list (MH.set_self ..) (by simp) ?_
  refine Tq ?_
  exact h _ (hle.trans (HLe.new hn _))
theorem cal_are_apart (D: Wd w B) {a b: Mo} (h: ∀ H', HLe H H' → Q (.bool (apart a b)) H'): Cal w B (d + 2) (.ref 73) [MV a, MV b] H Q := by
 refine Cal.enter (names := ["a", "b"]) D rfl rfl (by exact len2 fun uu uu => rfl) (by decide) rfl (by decide) fun L => ?_
 refine Xc fun uu uu => ?_;refine Xr ?_;refine Ev.kcmp ?_;refine Ev.kcall_bi ?_;refine Ea ?_;refine Ek ?_;refine Ea ?_;refine En ?_;refine Ea ?_;refine En ?_;refine Eo ?_
 refine cal_powers_meet D fun H' hle => ?_
 refine Eo ?_
 refine Cal.sum_tup (is := [((mmeet a b).1: Int), ((mmeet a b).2: Int)]) ?_
 refine Ei ?_;refine Cmp.eq_int ?_;refine Tq ?_
 have e: ([((mmeet a b).1: Int), ((mmeet a b).2: Int)].sum == 0) = apart a b := by
  simp only [apart, List.sum_cons, List.sum_nil]
  rw [Bool.eq_iff_iff]; simp; lia
 show Q (.bool ([((mmeet a b).1: Int), ((mmeet a b).2: Int)].sum == 0)) H'
 rw [e]; exact h _ hle
inductive I26 (H: MH) (a b: Mo) (i: Nat) (ρ': Rho) (H': MH): Prop
 | mk (c1: H' = H) (c2: ρ' "b" = some (MV b)) (c3: (1 ≤ i → a.1 ≤ b.1)) (c4: (2 ≤ i → a.2 ≤ b.2))
theorem cal_powers_divide (D: Wd w B) {a b: Mo} (h: Q (.bool (mdiv a b)) H): Cal w B (d + 1) (.ref 51) [MV a, MV b] H Q := by
 refine Cal.enter (names := ["a", "b"]) D rfl rfl (by exact len2 fun uu uu => rfl) (by decide) rfl (by decide) fun L => ?_
 refine Xc fun uu uu => ?_
 refine Ex.forB ?_ (by intro uu; rfl)
 refine Its.kenum ?_
 refine En ?_
 refine Or.inr ⟨_, rfl, I26 H a b, True.intro, ⟨rfl, rfl, by lia, by lia⟩,?_,?_⟩
 ·rintro i x ρ' H' hx uu ⟨rfl, hb, h1, h2⟩
  rcases enum2 hx with ⟨rfl, rfl⟩ | ⟨rfl, rfl⟩
  ·refine ⟨_, Asg.pair (.inl rfl) (.inl rfl),?_⟩
   refine (fun (uu: Post) (uu: PLe _ _) => ?_); refine Xc fun uu uu => ?_;refine Xi ?_;refine Tk ?_;refine En ?_;refine Eb ?_
   refine Em hb ?_
   refine En ?_;refine Iu ?_;refine Cmp.gt_int ?_;refine ⟨_, rfl,?_⟩
   by_cases q: a.1 ≤ b.1
   ·refine iteF (by simp; lia) ?_
    refine Xo ?_;refine Tn ?_;refine Xo ?_
    refine Lp.next (by assumption) ?_; exact ⟨True.intro, rfl, hb, fun uu => q, by lia⟩
   ·refine iteT (by simp; lia) ?_
    refine Xc fun uu uu => ?_;refine Xr ?_;refine Ev.const_bool ?_;refine Tq ?_;refine Tq ?_
    refine Lp.ret (by assumption) ?_
    refine Tq ?_
    have: mdiv a b = false := by simp [mdiv, q]
    rw [this] at h; exact h
  ·refine ⟨_, Asg.pair (.inl rfl) (.inl rfl),?_⟩
   refine (fun (uu: Post) (uu: PLe _ _) => ?_); refine Xc fun uu uu => ?_;refine Xi ?_;refine Tk ?_;refine En ?_;refine Eb ?_
   refine Em hb ?_
   refine En ?_;refine Iu ?_;refine Cmp.gt_int ?_;refine ⟨_, rfl,?_⟩
   by_cases q: a.2 ≤ b.2
   ·refine iteF (by simp; lia) ?_
    refine Xo ?_;refine Tn ?_;refine Xo ?_
    refine Lp.next (by assumption) ?_; exact ⟨True.intro, rfl, hb, fun uu => h1 (by lia), fun uu => q⟩
   ·refine iteT (by simp; lia) ?_
    refine Xc fun uu uu => ?_;refine Xr ?_;refine Ev.const_bool ?_;refine Tq ?_;refine Tq ?_
    refine Lp.ret (by assumption) ?_
    refine Tq ?_
    have: mdiv a b = false := by simp [mdiv, q]
    rw [this] at h; exact h
 ·rintro ρ' H' uu ⟨rfl, hb, h1, h2⟩
  refine Tn ?_;refine Xc fun uu uu => ?_;refine Xr ?_;refine Ev.const_bool ?_;refine Tq ?_
  have: mdiv a b = true := by simp [mdiv, h1 (by simp [enumV]), h2 (by simp [enumV])]
  rw [this] at h; exact h
end

section
variable {w: World} {B: Heap} {env: Env} {d: Nat} {ρ: Rho} {H: MH}
variable {Q: V → MH → Prop}
set_option maxHeartbeats 400000
noncomputable def oV: Od → V
 | .lex => .str "lex"
 | .grlex => .str "grlex"
 | .grevlex => .str "grevlex"
noncomputable def keyV (o: Od) (m: Mo): V := match o with
 | .lex => MV m
 | .grlex => .tup [.int (m.1 + m.2: Nat), .int m.1, .int m.2]
 | .grevlex => .tup [.int (m.1 + m.2: Nat), .int (-(m.2: Int)), .int (-(m.1: Int))]
theorem cal_order_key (D: Wd w B) {o: Od} {m: Mo} (h: ∀ H', HLe H H' → Q (keyV o m) H'): Cal w B (d + 1) (.ref 39) [oV o, MV m] H Q := by
 refine Cal.enter (names := ["order", "powers"]) D rfl rfl (by exact len2 fun uu uu => rfl) (by decide) rfl (by decide) fun L => ?_
 cases o with
 | lex =>
  simp only [oV]
  refine Xc fun uu uu => ?_;refine Xi ?_;refine Tk ?_;refine En ?_;refine Ev.const_str ?_;refine Cmp.eq (EqA.str 0 _ _) ?_ (Nat.zero_le _); refine ⟨_, rfl,?_⟩
  refine iteT (by decide) ?_
  refine Xc fun uu uu => ?_;refine Xr ?_;refine En ?_;refine Tq ?_;refine Tq ?_
  exact h _ (HLe.refl _)
 | grlex =>
  simp only [oV]
  refine Xc fun uu uu => ?_;refine Xi ?_;refine Tk ?_;refine En ?_;refine Ev.const_str ?_;refine Cmp.eq (EqA.str 0 _ _) ?_ (Nat.zero_le _); refine ⟨_, rfl,?_⟩
  refine iteF (by decide) ?_
  refine Xo ?_;refine Tn ?_;refine Xc fun uu uu => ?_;refine Xi ?_;refine Tk ?_;refine En ?_;refine Ev.const_str ?_;refine Cmp.eq (EqA.str 0 _ _) ?_ (Nat.zero_le _); refine ⟨_, rfl,?_⟩
  refine iteT (by decide) ?_
  refine Xc fun uu uu => ?_;refine Xr ?_;refine Eg ?_;refine Et ?_;refine Ea ?_;refine Ev.kcall_bi ?_;refine Ea ?_;refine En ?_;refine Eo ?_
  refine Cal.sum_tup (is := [(m.1: Int), (m.2: Int)]) ?_
  refine Eo ?_;refine En ?_
  refine Bin.add_tup (by simp) ?_
  refine Tq ?_;refine Tq ?_
  have e: [(m.1: Int), (m.2: Int)].sum = ((m.1 + m.2: Nat): Int) := by simp
  rw [e]
  exact h _ (HLe.refl _)
 | grevlex =>
  simp only [oV]
  refine Xc fun uu uu => ?_;refine Xi ?_;refine Tk ?_;refine En ?_;refine Ev.const_str ?_;refine Cmp.eq (EqA.str 0 _ _) ?_ (Nat.zero_le _); refine ⟨_, rfl,?_⟩
  refine iteF (by decide) ?_
  refine Xo ?_;refine Tn ?_;refine Xc fun uu uu => ?_;refine Xi ?_;refine Tk ?_;refine En ?_;refine Ev.const_str ?_;refine Cmp.eq (EqA.str 0 _ _) ?_ (Nat.zero_le _); refine ⟨_, rfl,?_⟩
  refine iteF (by decide) ?_
  refine Xo ?_;refine Tn ?_;refine Xc fun uu uu => ?_;refine Xi ?_;refine Tk ?_;refine En ?_;refine Ev.const_str ?_;refine Cmp.eq (EqA.str 0 _ _) ?_ (Nat.zero_le _); refine ⟨_, rfl,?_⟩
  refine iteT (by decide) ?_
  refine Xc fun uu uu => ?_;refine Xr ?_;refine Eg ?_;refine Et ?_;refine Ea ?_;refine Ev.kcall_bi ?_;refine Ea ?_;refine En ?_;refine Eo ?_
  refine Cal.sum_tup (is := [(m.1: Int), (m.2: Int)]) ?_
  refine Eo ?_;refine Ev.kcall_ty ?_;refine Ea ?_
  refine Ev.klc ?_
  refine Its.kof (Ev.tup_rev ?_ (by intro uu uu; rfl))
  refine En ?_;refine Ev.kun ?_;refine Ei ?_;refine Un.neg_int ?_;refine ⟨_, _, rfl,?_⟩
  refine ⟨rfl, _, _, Itb.tup, CompL.map (zs := [.int (-(m.2: Int)), .int (-(m.1: Int))]) rfl (fun uu uu => True.intro) (by simp) (fun L i x H' hx hle => ?_) fun H' hle n hn => ?_⟩
  ·rcases two hx with ⟨rfl, rfl⟩ | ⟨rfl, rfl⟩
   all_goals
    refine ⟨_, AsgL.name rfl, by repeat first | exact sub_inner | refine sub_set rfl ?_,?_⟩
    refine Ev.kun ?_;refine En ?_;refine Un.neg_int ?_
    exact ⟨hle, rfl⟩
  ·refine Eo ?_
   refine Cal.tuple_list (MH.set_self ..) (by simp) ?_
   skip
   refine Bin.add_tup (by simp) ?_
   refine Tq ?_;refine Tq ?_
   have e: [(m.1: Int), (m.2: Int)].sum = ((m.1 + m.2: Nat): Int) := by simp
   rw [e]
   exact h _ (hle.trans (HLe.new hn _))
theorem OrdV.cast {gt: Bool} {n: Nat} {x y: V} {b c: Bool} (h: OrdV gt n x y b) (e: b = c): OrdV gt n x y c := e ▸ h
theorem ordEq {gt: Bool} {n: Nat} {i j: Int} {xs ys: List V} {b: Bool} (h: i = j) (r: OrdV gt (n + 1) (.tup xs) (.tup ys) b): OrdV gt (n + 1) (.tup (.int i :: xs)) (.tup (.int j :: ys)) b := by
 subst h
 refine .eq (fun H => ?_) r
 have := EqA.int (H := H) n i i
 rw [beq_self_eq_true] at this; exact this
theorem ordNe {gt: Bool} {n: Nat} {i j: Int} {xs ys: List V} (h: i ≠ j) (hl: xs.length = ys.length): OrdV gt (n + 1) (.tup (.int i :: xs)) (.tup (.int j :: ys)) (if gt then decide (j < i) else decide (i < j)) := by
 refine .ne hl (fun H => ?_) (.int n i j)
 have := EqA.int (H := H) n i j
 rw [beq_eq_false_iff_ne.mpr h] at this; exact this
theorem ordLt {n: Nat} {i j: Int} {xs ys: List V} {b: Bool} (hl: xs.length = ys.length) (r: OrdV false (n + 1) (.tup xs) (.tup ys) b): OrdV false (n + 1) (.tup (.int i :: xs)) (.tup (.int j :: ys)) (decide (i < j) || (decide (i = j) && b)) := by
 by_cases h: i = j
 ·refine (ordEq h r).cast ?_
  rw [decide_eq_true h, decide_eq_false (by lia), Bool.true_and, Bool.false_or]
 ·refine (ordNe h hl).cast ?_
  rw [decide_eq_false h, Bool.false_and, Bool.or_false]; rfl
theorem ordGt {n: Nat} {i j: Int} {xs ys: List V} {b: Bool} (hl: xs.length = ys.length) (r: OrdV true (n + 1) (.tup xs) (.tup ys) b): OrdV true (n + 1) (.tup (.int i :: xs)) (.tup (.int j :: ys)) (decide (j < i) || (decide (j = i) && b)) := by
 by_cases h: i = j
 ·refine (ordEq h r).cast ?_
  rw [decide_eq_true h.symm, decide_eq_false (by lia), Bool.true_and, Bool.false_or]
 ·refine (ordNe h hl).cast ?_
  rw [decide_eq_false (Ne.symm h), Bool.false_and, Bool.or_false]; rfl
theorem natLt (x y: Nat): decide ((x: Int) < (y: Int)) = decide (x < y) := by simp
theorem natEq (x y: Nat): decide ((x: Int) = (y: Int)) = decide (x = y) := by rw [decide_eq_decide]; exact Int.ofNat_inj
theorem negLt (x y: Nat): decide (-(x: Int) < -(y: Int)) = decide (y < x) := by simp
theorem negEq (x y: Nat): decide (-(x: Int) = -(y: Int)) = decide (x = y) := by rw [decide_eq_decide]; exact Int.neg_inj.trans Int.ofNat_inj
theorem keyV_gt (o: Od) (a b: Mo): OrdV true 2 (keyV o a) (keyV o b) (ltM o b a) := by
 have nil: OrdV true 2 (.tup []) (.tup []) false := .nil 1
 cases o with
 | lex =>
  change OrdV true 2 (.tup [.int (a.1: Nat), .int (a.2: Nat)]) (.tup [.int (b.1: Nat), .int (b.2: Nat)]) _
  refine OrdV.cast (ordGt rfl (ordGt rfl nil)) ?_
  rw [natLt, natLt, natEq, Bool.and_false, Bool.or_false]; rfl
 | grlex =>
  change OrdV true 2 (.tup [.int (a.1 + a.2: Nat), .int (a.1: Nat), .int (a.2: Nat)]) (.tup [.int (b.1 + b.2: Nat), .int (b.1: Nat), .int (b.2: Nat)]) _
  refine OrdV.cast (ordGt rfl (ordGt rfl (ordGt rfl nil))) ?_
  rw [natLt, natLt, natLt, natEq, natEq, Bool.and_false, Bool.or_false]; rfl
 | grevlex =>
  change OrdV true 2 (.tup [.int (a.1 + a.2: Nat), .int (-((a.2: Nat): Int)), .int (-((a.1: Nat): Int))]) (.tup [.int (b.1 + b.2: Nat), .int (-((b.2: Nat): Int)), .int (-((b.1: Nat): Int))]) _
  refine OrdV.cast (ordGt rfl (ordGt rfl (ordGt rfl nil))) ?_
  rw [natLt, negLt, negLt, natEq, negEq, Bool.and_false, Bool.or_false]; simp only [ltM, eq_comm]
theorem keyV_lt (o: Od) (a b: Mo): OrdV false 2 (keyV o a) (keyV o b) (ltM o a b) := by
 have nil: OrdV false 2 (.tup []) (.tup []) false := .nil 1
 cases o with
 | lex =>
  change OrdV false 2 (.tup [.int (a.1: Nat), .int (a.2: Nat)]) (.tup [.int (b.1: Nat), .int (b.2: Nat)]) _
  refine OrdV.cast (ordLt rfl (ordLt rfl nil)) ?_
  rw [natLt, natLt, natEq, Bool.and_false, Bool.or_false]; rfl
 | grlex =>
  change OrdV false 2 (.tup [.int (a.1 + a.2: Nat), .int (a.1: Nat), .int (a.2: Nat)]) (.tup [.int (b.1 + b.2: Nat), .int (b.1: Nat), .int (b.2: Nat)]) _
  refine OrdV.cast (ordLt rfl (ordLt rfl (ordLt rfl nil))) ?_
  rw [natLt, natLt, natLt, natEq, natEq, Bool.and_false, Bool.or_false]; rfl
 | grevlex =>
  change OrdV false 2 (.tup [.int (a.1 + a.2: Nat), .int (-((a.2: Nat): Int)), .int (-((a.1: Nat): Int))]) (.tup [.int (b.1 + b.2: Nat), .int (-((b.2: Nat): Int)), .int (-((b.1: Nat): Int))]) _
  refine OrdV.cast (ordLt rfl (ordLt rfl (ordLt rfl nil))) ?_
  rw [natLt, negLt, negLt, natEq, negEq, Bool.and_false, Bool.or_false]; rfl
end

section
variable {w: World} {B: Heap} {env: Env} {d: Nat} {ρ: Rho} {H: MH}
variable {Q: V → MH → Prop}
set_option maxHeartbeats 400000
theorem eP_get {p: Po} {i: Nat} {x: V} (h: ((eP p).map fun e => mv e.1)[i]? = some x): ∃ e, p[i]? = some e ∧ x = MV e.1 := by
 rw [List.getElem?_map, eP, List.getElem?_map] at h
 cases hp: p[i]? with
 | none => rw [hp] at h; cases h
 | some e => rw [hp] at h; cases h; exact ⟨e, rfl, rfl⟩
theorem eP_mv_length (p: Po): ((eP p).map fun e => mv e.1).length = p.length := by simp [eP]
noncomputable def bestV: Option (Mo × Rat) → V
 | none => .none
 | some e => MV e.1
noncomputable def highV (o: Od): Option (Mo × Rat) → V
 | none => .none
 | some e => keyV o e.1
noncomputable def leadV: Option (Mo × Rat) → V
 | none => .none
 | some e => .tup [MV e.1, RV e.2]
inductive I28 (H: MH) (a: Addr) (o: Od) (p: Po) (i: Nat) (ρ': Rho) (H': MH): Prop
 | mk (c1: HLe H H') (c2: ρ' "a" = some (.ref a)) (c3: ρ' "order" = some (oV o)) (c4: ρ' "best" = some (bestV ((p.take i).foldl (better o) none))) (c5: ρ' "highest" = some (highV o ((p.take i).foldl (better o) none)))
theorem cal_mvlead (D: Wd w B) {o: Od} {a: Addr} {p: Po} (ha: H.o a = some (.poly (eP p))) (hn: (p.map (·.1)).Nodup) (h: ∀ H', HLe H H' → Q (leadV (lead o p)) H'): Cal w B (d + 2) (.ref 174) [.ref a, oV o] H Q := by
 refine Cal.enter (names := ["a", "order"]) D rfl rfl (by exact len2 fun uu uu => rfl) (by decide) rfl (by decide) fun L => ?_
 refine Xc fun uu uu => ?_;refine Ex.kpair ?_;refine Et ?_;refine Ea ?_;refine Ev.const_none ?_;refine Ea ?_;refine Ev.const_none ?_;refine Eo ?_;refine ⟨_, _, rfl,?_⟩; refine Tn ?_;refine Xc fun uu uu => ?_
 refine Ex.forB (Its.kof ?_) (by intro uu; rfl)
 refine En ?_
 refine ⟨_, _, Itb.poly ha, I28 H a o p, ⟨ha, rfl⟩, ⟨HLe.refl _, rfl, rfl, rfl, rfl⟩,?_,?_⟩
 ·rintro i x ρ' H' hx ⟨ha', uu⟩ ⟨hle, h1, h2, h3, h4⟩
  obtain ⟨e, he, rfl⟩ := eP_get hx
  refine ⟨_, Asg.name (.inl rfl),?_⟩
  refine (fun (uu: Post) (uu: PLe _ _) => ?_); refine Xc fun uu uu => ?_;refine Xa ?_;refine Ek ?_;refine Ea ?_
  refine Em h2 ?_
  refine Ea ?_;refine En ?_;refine Eo ?_
  refine cal_order_key D fun H1 l1 => ?_
  refine Tn ?_;refine Xc fun uu uu => ?_;refine Xi ?_;refine Ts.bool ?_;refine Al.kor ?_;refine Tk ?_
  have e2: (p.take (i + 1)).foldl (better o) none = better o ((p.take i).foldl (better o) none) e := by rw [take_succ_get he, List.foldl_append]; rfl
  revert h3 h4 e2
  refine gen_ ((p.take i).foldl (better o) none) ?_
  intro b h3 h4 e2
  have ha1 := l1.get ha'
  have v1 := (l1.vr ha').trans (hle.vr ha)
  cases b with
  | none =>
   refine Em (v := .none) h3 ?_
   refine Ev.const_none ?_;refine Cmp.is_none ?_;refine ⟨_, rfl,?_⟩
   skip
   refine iteT rfl ?_
   refine iteT rfl ?_
   refine Xc fun uu uu => ?_;refine Ex.kpairS ?_;refine Et ?_;refine Ea ?_;refine En ?_;refine Ea ?_;refine En ?_;refine Eo ?_;refine ⟨_, _, rfl,?_⟩; refine Tn ?_;refine Xo ?_;refine Tn ?_;refine Xo ?_
   refine Lp.next (by assumption) ?_; exact ⟨⟨ha1, v1⟩, hle.trans l1, h1, h2, by rw [e2]; rfl, by rw [e2]; rfl⟩
  | some b =>
   refine Em (v := MV b.1) h3 ?_
   refine Ev.const_none ?_;refine Cmp.is_none_ne (by intro q; cases q) ?_;refine ⟨_, rfl,?_⟩
   skip
   refine iteF (by decide) ?_
   refine Al.kor ?_;refine Tk ?_;refine En ?_
   refine Em h4 ?_
   refine Cmp.gt_tup (keyV_gt o e.1 b.1) ?_
   refine ⟨_, rfl,?_⟩
   by_cases q: ltM o b.1 e.1 = true
   ·refine iteT q ?_
    refine iteT rfl ?_
    refine Xc fun uu uu => ?_;refine Ex.kpairS ?_;refine Et ?_;refine Ea ?_;refine En ?_;refine Ea ?_;refine En ?_;refine Eo ?_;refine ⟨_, _, rfl,?_⟩; refine Tn ?_;refine Xo ?_;refine Tn ?_;refine Xo ?_
    refine Lp.next (by assumption) ?_;refine ⟨⟨ha1, v1⟩, hle.trans l1, h1, h2,?_,?_⟩ <;> rw [e2] <;> simp only [better, q, if_true] <;> rfl
   ·refine iteF q ?_
    refine Al.or_nil ?_
    refine iteF (by decide) ?_
    refine Xo ?_;refine Tn ?_;refine Xo ?_
    refine Lp.next (by assumption) ?_;refine ⟨⟨ha1, v1⟩, hle.trans l1, h1, h2,?_,?_⟩ <;> rw [e2] <;> simp only [better, if_neg q] <;> assumption
 ·rintro ρ' H' ⟨ha', uu⟩ ⟨hle, h1, h2, h3, h4⟩
  rw [eP_mv_length, List.take_length] at h3 h4
  change ρ' "best" = some (bestV (lead o p)) at h3
  have hl := h _ hle
  cases hb: lead o p with
  | none =>
   rw [hb] at h3 hl
   refine Tn ?_;refine Xc fun uu uu => ?_;refine Xr ?_;refine Ev.kif ?_;refine Tk ?_
   refine Em (v := .none) h3 ?_
   refine Ev.const_none ?_;refine Cmp.is_none ?_;refine ⟨_, rfl,?_⟩
   skip
   refine iteT rfl ?_
   refine Ev.const_none ?_;refine Tq ?_
   exact hl
  | some b =>
   rw [hb] at h3 hl
   refine Tn ?_;refine Xc fun uu uu => ?_;refine Xr ?_;refine Ev.kif ?_;refine Tk ?_
   refine Em (v := MV b.1) h3 ?_
   refine Ev.const_none ?_;refine Cmp.is_none_ne (by intro q; cases q) ?_;refine ⟨_, rfl,?_⟩
   skip
   refine iteF (by decide) ?_
   refine Et ?_;refine Ea ?_
   refine Em (v := MV b.1) h3 ?_
   refine Ea ?_;refine Eb ?_
   refine Em h1 ?_
   skip
   refine Em (v := MV b.1) h3 ?_
   refine Iti.poly ha' (by rw [pget_eP, pg_mem hn (lead_mem hb)]; rfl) ?_
   refine Eo ?_;refine Tq ?_
   exact hl
end

section
variable {w: World} {B: Heap} {env: Env} {d: Nat} {ρ: Rho} {H: MH}
variable {Q: V → MH → Prop}
set_option maxHeartbeats 400000
theorem isZero (t: Rat): (t.num == 0 && ((t.den: Int) == 1 && true)) = decide (t = 0) := by
 rw [Bool.eq_iff_iff, decide_eq_true_eq, Bool.and_true, Bool.and_eq_true, beq_iff_eq, beq_iff_eq]
 constructor
 ·rintro ⟨h, uu⟩; exact Rat.num_eq_zero.mp h
 ·rintro rfl; exact ⟨rfl, rfl⟩
theorem EqA.pair {n: Nat} {a b c e: Int}: EqA H (n + 1) (.tup [.int a, .int b]) (.tup [.int c, .int e]) (a == c && (b == e && true)) := .tup (.cons (.int _ _ _) (.cons (.int _ _ _) (.nil _)))
theorem cal_add_term (D: Wd w B) {a: Addr} {p: Po} {m: Mo} {c: Rat} (ha: H.o a = some (.poly (eP p))) (hs: ∀ x, pg p m = some x → SzB x ∧ SzB c) (hl: p.length ≤ 200000)
  (h: ∀ v H', HUp a H H' → H'.o a = some (.poly (eP (addT p m c))) → Q v H'): Cal w B (d + 4) (.ref 138) [.ref a, MV m, RV c] H Q := by
 refine Cal.enter (names := ["found", "powers", "rational"]) D rfl rfl (by exact len3 fun uu uu uu => rfl) (by decide) rfl (by decide) fun L => ?_
 have hl': (eP p).length ≤ 1000000 := by rw [eP_length]; lia
 refine Xc fun uu uu => ?_
 refine Xa ?_
 refine Ev.mono (Q := fun v H' => v = RV (tot p m c) ∧ H' = H) ?_ ?_
 ·refine Ev.kif ?_;refine Tk ?_;refine En ?_;refine En ?_
  refine Cmp.in_poly ha ?_
  rw [pget_eP, Option.isSome_map]
  refine ⟨_, rfl,?_⟩
  unfold tot
  cases hp: pg p m with
  | none =>
   refine iteF (by simp) ?_
   refine En ?_
   exact ⟨rfl, rfl⟩
  | some x =>
   refine iteT (by simp) ?_
   refine Ek ?_;refine Ea ?_;refine Eb ?_;refine En ?_;refine En ?_
   refine Iti.poly ha (by rw [pget_eP, hp]; rfl) ?_
   refine Ea ?_;refine En ?_;refine Eo ?_
   exact cal_radd D (hs x hp).1 (hs x hp).2 ⟨rfl, rfl⟩
 ·rintro v H' ⟨rfl, rfl⟩
  refine Tn ?_;refine Xc fun uu uu => ?_;refine Xi ?_;refine Tk ?_;refine En ?_;refine Ev.kglob ?_
  refine Cmp.eq (n := 1) EqA.pair ?_
  rw [isZero]
  refine ⟨_, rfl,?_⟩
  by_cases hz: tot p m c = 0
  ·refine iteT (by simpa using hz) ?_
   have ea: addT p m c = pd p m := by unfold addT; rw [if_pos hz]
   refine Xc fun uu uu => ?_;refine Ex.kexpr ?_
   refine Ev.kmethod (id := "dict.pop") PySem.F.plainAttrs_dict PySem.F.slot_dict_pop PySem.F.type_dict_pop ?_
   refine En ?_
   refine ⟨OnT.poly ha,?_⟩
   refine Ea ?_;refine En ?_;refine Ea ?_;refine Ev.const_none ?_;refine Eo ?_
   refine Cal.dpop_none ha hl' (fun v => ?_) (fun hn => ?_)
   ·refine Tn ?_;refine Xo ?_;refine Tn ?_;refine Xo ?_
    refine h _ _ (HUp.set _ _ _) ?_
    rw [MH.set_self, pdel_eP, ea]
   ·refine Tn ?_;refine Xo ?_;refine Tn ?_;refine Xo ?_
    refine h _ _ (HUp.refl _ _) ?_
    rw [ha, ea, ← pdel_eP, pdel_none hn]
  ·refine iteF (by simpa using hz) ?_
   have ea: addT p m c = pp p m (tot p m c) := by unfold addT; rw [if_neg hz]
   refine Xc fun uu uu => ?_
   refine Ex.kassign_sub ?_
   refine En ?_;refine En ?_;refine En ?_
   refine Or.inr ⟨_, _, _, _, rfl, ha, hl', rfl, rfl,?_⟩
   refine Tn ?_;refine Xo ?_;refine Tn ?_;refine Xo ?_
   refine h _ _ (HUp.set _ _ _) ?_
   rw [MH.set_self, pput_eP, ea]
theorem OkP.hash {p: Po} (h: OkP p): HashOk (eP p) := hashOk h.wf h.box
inductive I29 (H: MH) (b n: Addr) (p q: Po) (i: Nat) (ρ': Rho) (H': MH): Prop
 | mk (c1: HLe H H') (c2: ρ' "b" = some (.ref b)) (c3: ρ' "found" = some (.ref n)) (c4: H'.o n = some (.poly (eP (addL p (q.take i)))))
theorem cal_mvadd (D: Wd w B) {a b: Addr} {p q: Po} (ha: H.o a = some (.poly (eP p))) (hb: H.o b = some (.poly (eP q))) (op: OkP p) (oq: OkP q)
  (h: ∀ n H', HLe H H' → H.o n = none → H'.o n = some (.poly (eP (addL p q))) → Q (.ref n) H'): Cal w B (d + 5) (.ref 131) [.ref a, .ref b] H Q := by
 refine Cal.enter (names := ["a", "b"]) D rfl rfl (by exact len2 fun uu uu => rfl) (by decide) rfl (by decide) fun L => ?_
 have lp: (eP p).length ≤ 1000000 := by rw [eP_length]; exact Nat.le_trans op.len (by decide)
 refine Xc fun uu uu => ?_;refine Xa ?_;refine Ev.kcall_ty ?_;refine Ea ?_;refine En ?_;refine Eo ?_
 refine Cal.dict_copy ha op.hash lp fun n hn => ?_
 refine Tn ?_;refine Xc fun uu uu => ?_
 have le0: HLe H (H.set n (.poly (eP p))) := HLe.new hn _
 have hb0 := le0.get hb
 have vb0 := le0.vr hb
 have hnb: b ≠ n := fun e => by rw [e, hn] at hb; cases hb
 refine Ex.forB (Its.kof ?_) (by intro uu; rfl)
 refine En ?_
 refine ⟨_, _, Itb.poly hb0, I29 H b n p q, ⟨hb0, rfl⟩, ⟨le0, rfl, rfl, MH.set_self ..⟩,?_,?_⟩
 ·rintro i x ρ' H' hx ⟨hb', uu⟩ ⟨hle, h1, h2, h3⟩
  obtain ⟨e, he, rfl⟩ := eP_get hx
  have hem: e ∈ q := List.mem_of_getElem? he
  refine ⟨_, Asg.name (.inl rfl),?_⟩
  refine (fun (uu: Post) (uu: PLe _ _) => ?_); refine Xc fun uu uu => ?_;refine Ex.kexpr ?_;refine Ek ?_;refine Ea ?_
  refine Em h2 ?_
  refine Ea ?_;refine En ?_;refine Ea ?_;refine Eb ?_
  refine Em h1 ?_
  refine En ?_
  refine Iti.poly hb' (by rw [pget_eP, pg_mem oq.wf.1 hem]; rfl) ?_
  refine Eo ?_
  refine cal_add_term D h3 (fun x hx => ?_) ?_ fun v H1 up1 h4 => ?_
  ·rw [pg_addL_other (keys_take oq.wf.1 he)] at hx
   exact ⟨op.sz _ (pg_some hx), oq.sz _ hem⟩
  ·have := addL_length p (q.take i)
   have := List.length_take_le' i q
   have := op.len
   have := oq.len
   lia
  ·refine Tn ?_;refine Xo ?_
   have hle1: HLe H H1 := HUp.le hle hn up1
   refine Lp.next (by assumption) ?_;refine ⟨⟨hle1.get hb, (hle1.vr hb).trans vb0.symm⟩, hle1, h1, h2,?_⟩
   rw [h4, take_succ_get he, addL_append]; rfl
 ·rintro ρ' H' uu ⟨hle, h1, h2, h3⟩
  rw [eP_mv_length, List.take_length] at h3
  refine Tn ?_;refine Xc fun uu uu => ?_;refine Xr ?_
  refine Em h2 ?_
  refine Tq ?_
  exact h n H' hle hn h3
end

section
variable {w: World} {B: Heap} {env: Env} {d: Nat} {ρ: Rho} {H: MH}
variable {Q: V → MH → Prop}
set_option maxHeartbeats 400000
theorem HLe.none {H H': MH} (x: HLe H H') {n: Addr} (h: H'.o n = none): H.o n = none := by
 cases q: H.o n with
 | none => rfl
 | some mo => rw [x.get q] at h; cases h
theorem keys_map {p: Po} (f: Mo × Rat → Mo × Rat) (g: Mo → Mo) (hf: ∀ e, (f e).1 = g e.1) (hg: ∀ a b, g a = g b → a = b) {i: Nat} {e: Mo × Rat} (hn: (p.map (·.1)).Nodup) (h: p[i]? = some e): g e.1 ∉ ((p.take i).map f).map (·.1) := by
 intro hm
 obtain ⟨x, hx, hxe⟩ := List.mem_map.mp hm
 obtain ⟨y, hy, rfl⟩ := List.mem_map.mp hx
 rw [hf] at hxe
 exact keys_take hn h (by rw [← hg _ _ hxe]; exact List.mem_map_of_mem hy)
theorem map_acc {p: Po} (f: Mo × Rat → Mo × Rat) (g: Mo → Mo) (hf: ∀ e, (f e).1 = g e.1) (hg: ∀ a b, g a = g b → a = b) {i: Nat} {e: Mo × Rat} (hn: (p.map (·.1)).Nodup) (h: p[i]? = some e) :
  eP ((p.take (i + 1)).map f) = pput (eP ((p.take i).map f)) (eM (g e.1)) (eR (f e).2) := by
 rw [pput_eP, pp_fresh _ (keys_map f g hf hg hn h), take_succ_get h, List.map_append]
 congr 2
 rw [List.map_cons, List.map_nil, ← hf]
theorem cal_mvneg (D: Wd w B) {a: Addr} {p: Po} (ha: H.o a = some (.poly (eP p))) (op: OkP p)
  (h: ∀ n H', HLe H H' → H.o n = none → H'.o n = some (.poly (eP (negP p))) → Q (.ref n) H'): Cal w B (d + 2) (.ref 143) [.ref a] H Q := by
 refine Cal.enter (names := ["a"]) D rfl rfl (by exact len1 fun uu => rfl) (by decide) rfl (by decide) fun L => ?_
 have lp := op.len
 refine Xc fun uu uu => ?_;refine Xr ?_
 refine Ev.kdc ?_
 refine Its.kof ?_
 refine En ?_
 refine ⟨_, _, Itb.poly ha, CompD.acc (fun i => eP (negP (p.take i))) rfl (fun H' hle => ⟨hle.get ha, hle.vr ha⟩) (by rw [eP_mv_length]; lia) (fun L i x H' hx hle => ?_) fun H' hle n hn => ?_⟩
 ·obtain ⟨e, he, rfl⟩ := eP_get hx
  have hem: e ∈ p := List.mem_of_getElem? he
  refine ⟨_, AsgL.name rfl, by repeat first | exact sub_inner | refine sub_set rfl ?_,?_⟩
  refine En ?_;refine Ek ?_;refine Ea ?_;refine Eb ?_;refine En ?_;refine En ?_
  refine Iti.poly (hle.get ha) (by rw [pget_eP, pg_mem op.wf.1 hem]; rfl) ?_
  refine Eo ?_
  refine cal_rneg D ⟨_, _, rfl, rfl, hle,?_⟩
  exact map_acc (fun e => (e.1, -e.2)) id (fun uu => rfl) (fun uu uu h => h) op.wf.1 he
 ·refine Tq ?_
  rw [eP_mv_length, List.take_length]
  exact h n _ (hle.trans (HLe.new hn _)) (hle.none hn) (MH.set_self ..)
theorem OkP.neg {p: Po} (h: OkP p): OkP (negP p) := by
 refine ⟨⟨?_, fun e he => ?_⟩, fun e he => ?_, fun e he => ?_, by unfold negP; rw [List.length_map]; exact h.len⟩
 ·have: (negP p).map (·.1) = p.map (·.1) := by unfold negP; rw [List.map_map]; rfl
  rw [this]; exact h.wf.1
 ·obtain ⟨x, hx, rfl⟩ := List.mem_map.mp he
  have := h.wf.2 x hx
  exact fun q => this (by have q': -x.2 = 0 := q; grind)
 ·obtain ⟨x, hx, rfl⟩ := List.mem_map.mp he
  obtain ⟨s, h1, h2, h3⟩ := h.sz x hx
  exact ⟨s, h1, by simpa using h2, by simpa using h3⟩
 ·obtain ⟨x, hx, rfl⟩ := List.mem_map.mp he
  exact h.box x hx
theorem cal_mvsub (D: Wd w B) {a b: Addr} {p q: Po} (ha: H.o a = some (.poly (eP p))) (hb: H.o b = some (.poly (eP q))) (op: OkP p) (oq: OkP q)
  (h: ∀ n H', HLe H H' → H.o n = none → H'.o n = some (.poly (eP (subP p q))) → Q (.ref n) H'): Cal w B (d + 6) (.ref 150) [.ref a, .ref b] H Q := by
 refine Cal.enter (names := ["a", "b"]) D rfl rfl (by exact len2 fun uu uu => rfl) (by decide) rfl (by decide) fun L => ?_
 refine Xc fun uu uu => ?_;refine Xr ?_;refine Ek ?_;refine Ea ?_;refine En ?_;refine Ea ?_;refine Ek ?_;refine Ea ?_;refine En ?_;refine Eo ?_
 refine cal_mvneg D hb oq fun n H1 l1 hn1 h1 => ?_
 refine Eo ?_
 refine cal_mvadd D (l1.get ha) h1 op oq.neg fun k H2 l2 hn2 h2 => ?_
 refine Tq ?_
 exact h k H2 (l1.trans l2) (l1.none hn2) h2
theorem SzB.zero_ne {r: Rat}: (RV r = RV 0) ↔ r = 0 := by
 constructor
 ·intro h
  have h1: r.num = 0 := by injection h with h; injection h with h _; injection h
  exact Rat.num_eq_zero.mp h1
 ·rintro rfl; rfl
theorem cal_mvscale (D: Wd w B) {a: Addr} {p: Po} {r: Rat} (ha: H.o a = some (.poly (eP p))) (op: OkP p) (hr: SzB r)
  (h: ∀ n H', HLe H H' → H.o n = none → H'.o n = some (.poly (eP (scaleP p r))) → Q (.ref n) H'): Cal w B (d + 4) (.ref 155) [.ref a, RV r] H Q := by
 refine Cal.enter (names := ["a", "rational"]) D rfl rfl (by exact len2 fun uu uu => rfl) (by decide) rfl (by decide) fun L => ?_
 have lp := op.len
 refine Xc fun uu uu => ?_;refine Xi ?_;refine Tk ?_;refine En ?_;refine Ev.kglob ?_
 refine Cmp.eq (n := 1) EqA.pair ?_
 rw [isZero]
 refine ⟨_, rfl,?_⟩
 by_cases hz: r = 0
 ·refine iteT (by simpa using hz) ?_
  refine Xc fun uu uu => ?_;refine Xr ?_
  with_reducible refine Ev.dict0 fun n hn => ?_
  refine Tq ?_;refine Tq ?_
  refine h n _ (HLe.new hn _) hn ?_
  rw [MH.set_self]; unfold scaleP; rw [if_pos hz]; rfl
 ·refine iteF (by simpa using hz) ?_
  refine Xo ?_;refine Tn ?_;refine Xc fun uu uu => ?_;refine Xr ?_
  refine Ev.kdc ?_
  refine Its.kof ?_
  refine En ?_
  refine ⟨_, _, Itb.poly ha, CompD.acc (fun i => eP ((p.take i).map fun e => (e.1, e.2 * r))) rfl (fun H' hle => ⟨hle.get ha, hle.vr ha⟩) (by rw [eP_mv_length]; lia) (fun L i x H' hx hle => ?_) fun H' hle n hn => ?_⟩
  ·obtain ⟨e, he, rfl⟩ := eP_get hx
   have hem: e ∈ p := List.mem_of_getElem? he
   refine ⟨_, AsgL.name rfl, by repeat first | exact sub_inner | refine sub_set rfl ?_,?_⟩
   refine En ?_;refine Ek ?_;refine Ea ?_;refine Eb ?_;refine En ?_;refine En ?_
   refine Iti.poly (hle.get ha) (by rw [pget_eP, pg_mem op.wf.1 hem]; rfl) ?_
   refine Ea ?_;refine En ?_;refine Eo ?_
   refine cal_rmul D (op.sz _ hem) hr ⟨_, _, rfl, rfl, hle,?_⟩
   exact map_acc (fun e => (e.1, e.2 * r)) id (fun uu => rfl) (fun uu uu h => h) op.wf.1 he
  ·refine Tq ?_
   rw [eP_mv_length, List.take_length]
   refine h n _ (hle.trans (HLe.new hn _)) (hle.none hn) ?_
   rw [MH.set_self]; unfold scaleP; rw [if_neg hz]
theorem mplus_canc (u a b: Mo) (h: mP a u = mP b u): a = b := by
 simp only [mP, Prod.mk.injEq] at h
 exact Prod.ext (by lia) (by lia)
theorem cal_mvshift (D: Wd w B) {a: Addr} {p: Po} {u: Mo} {r: Rat} (ha: H.o a = some (.poly (eP p))) (op: OkP p) (hr: SzB r)
  (h: ∀ n H', HLe H H' → H.o n = none → H'.o n = some (.poly (eP (shiftP p u r))) → Q (.ref n) H'): Cal w B (d + 4) (.ref 160) [.ref a, MV u, RV r] H Q := by
 refine Cal.enter (names := ["a", "powers", "rational"]) D rfl rfl (by exact len3 fun uu uu uu => rfl) (by decide) rfl (by decide) fun L => ?_
 have lp := op.len
 refine Xc fun uu uu => ?_;refine Xi ?_;refine Tk ?_;refine En ?_;refine Ev.kglob ?_
 refine Cmp.eq (n := 1) EqA.pair ?_
 rw [isZero]
 refine ⟨_, rfl,?_⟩
 by_cases hz: r = 0
 ·refine iteT (by simpa using hz) ?_
  refine Xc fun uu uu => ?_;refine Xr ?_
  with_reducible refine Ev.dict0 fun n hn => ?_
  refine Tq ?_;refine Tq ?_
  refine h n _ (HLe.new hn _) hn ?_
  rw [MH.set_self]; unfold shiftP; rw [if_pos hz]; rfl
 ·refine iteF (by simpa using hz) ?_
  refine Xo ?_;refine Tn ?_;refine Xc fun uu uu => ?_;refine Xr ?_
  refine Ev.kdc ?_
  refine Its.kof ?_
  refine En ?_
  refine ⟨_, _, Itb.poly ha, CompD.acc (fun i => eP ((p.take i).map fun e => (mP e.1 u, e.2 * r))) rfl (fun H' hle => ⟨hle.get ha, hle.vr ha⟩) (by rw [eP_mv_length]; lia) (fun L i x H' hx hle => ?_) fun H' hle n hn => ?_⟩
  ·obtain ⟨e, he, rfl⟩ := eP_get hx
   have hem: e ∈ p := List.mem_of_getElem? he
   refine ⟨_, AsgL.name rfl, by repeat first | exact sub_inner | refine sub_set rfl ?_,?_⟩
   refine Ek ?_;refine Ea ?_;refine En ?_;refine Ea ?_;refine En ?_;refine Eo ?_
   refine cal_powers_product D fun H1 l1 => ?_
   refine Ek ?_;refine Ea ?_;refine Eb ?_;refine En ?_;refine En ?_
   refine Iti.poly ((hle.trans l1).get ha) (by rw [pget_eP, pg_mem op.wf.1 hem]; rfl) ?_
   refine Ea ?_;refine En ?_;refine Eo ?_
   refine cal_rmul D (op.sz _ hem) hr ⟨_, _, rfl, rfl, hle.trans l1,?_⟩
   exact map_acc (fun e => (mP e.1 u, e.2 * r)) (fun m => mP m u) (fun uu => rfl) (mplus_canc u) op.wf.1 he
  ·refine Tq ?_
   rw [eP_mv_length, List.take_length]
   refine h n _ (hle.trans (HLe.new hn _)) (hle.none hn) ?_
   rw [MH.set_self]; unfold shiftP; rw [if_neg hz]
theorem SzB.inv {a: Rat} (h: SzB a) (h0: a ≠ 0): SzB a⁻¹ := by
 obtain ⟨s, h1, h2⟩ := h
 exact ⟨s, h1, Sz.inv h2 h0⟩
theorem cal_mvmonic (D: Wd w B) {a: Addr} {o: Od} {p: Po} (ha: H.o a = some (.poly (eP p))) (op: OkP p)
  (h: ∀ n H', HLe H H' → H.o n = none → H'.o n = some (.poly (eP (monicP o p))) → Q (.ref n) H'): Cal w B (d + 5) (.ref 181) [.ref a, oV o] H Q := by
 refine Cal.enter (names := ["a", "order"]) D rfl rfl (by exact len2 fun uu uu => rfl) (by decide) rfl (by decide) fun L => ?_
 refine Xc fun uu uu => ?_;refine Xa ?_;refine Ek ?_;refine Ea ?_;refine En ?_;refine Ea ?_;refine En ?_;refine Eo ?_
 refine cal_mvlead D ha op.wf.1 fun H1 l1 => ?_
 cases hl: lead o p with
 | none =>
  simp only [leadV]
  refine Tn ?_;refine Xc fun uu uu => ?_;refine Xr ?_;refine Ev.kif ?_;refine Tk ?_;refine En ?_;refine Ev.const_none ?_;refine Cmp.is_none ?_;refine ⟨_, rfl,?_⟩
  refine iteT rfl ?_
  skip
  with_reducible refine Ev.dict0 fun n hn => ?_
  refine Tq ?_
  refine h n _ (l1.trans (HLe.new hn _)) (l1.none hn) ?_
  rw [MH.set_self]; unfold monicP; rw [hl]; rfl
 | some l =>
  simp only [leadV]
  have hm := lead_mem hl
  refine Tn ?_;refine Xc fun uu uu => ?_;refine Xr ?_;refine Ev.kif ?_;refine Tk ?_;refine En ?_;refine Ev.const_none ?_;refine Cmp.is_none_ne (by intro q; cases q) ?_;refine ⟨_, rfl,?_⟩
  refine iteF (by decide) ?_
  refine Ek ?_;refine Ea ?_;refine En ?_;refine Ea ?_;refine Ek ?_;refine Ea ?_;refine Eb ?_;refine En ?_;refine Ei ?_;refine Iu ?_;refine Eo ?_
  refine cal_rinv D (op.wf.2 l hm) ?_
  refine Eo ?_
  refine cal_mvscale D (l1.get ha) op ((op.sz l hm).inv (op.wf.2 l hm)) fun n H2 l2 hn h2 => ?_
  refine Tq ?_
  refine h n _ (l1.trans l2) (l1.none hn) ?_
  rw [h2]; unfold monicP; rw [hl]
end

section
variable {w: World} {B: Heap} {env: Env} {d: Nat} {ρ: Rho} {H: MH}
variable {Q: V → MH → Prop}
set_option maxHeartbeats 400000
inductive I31a (H: MH) (a b n: Addr) (p q: Po) (i: Nat) (ρ': Rho) (H': MH): Prop
 | mk (c1: HLe H H') (c2: ρ' "a" = some (.ref a)) (c3: ρ' "b" = some (.ref b)) (c4: ρ' "found" = some (.ref n)) (c5: H'.o n = some (.poly (eP (addL [] (prods p (q.take i))))))
theorem cal_mvmul (D: Wd w B) {a b: Addr} {p q: Po} (ha: H.o a = some (.poly (eP p))) (hb: H.o b = some (.poly (eP q))) (ok: MulOk p q)
  (h: ∀ n H', HLe H H' → H.o n = none → H'.o n = some (.poly (eP (mulP p q))) → Q (.ref n) H'): Cal w B (d + 5) (.ref 167) [.ref a, .ref b] H Q := by
 refine Cal.enter (names := ["a", "b"]) D rfl rfl (by exact len2 fun uu uu => rfl) (by decide) rfl (by decide) fun L => ?_
 have lp := ok.okp.len
 have lq := ok.okq.len
 refine Xc fun uu uu => ?_;refine Xa ?_
 with_reducible refine Ev.dict0 fun n hn => ?_
 refine Tn ?_;refine Xc fun uu uu => ?_
 have le0: HLe H (H.set n (.poly [])) := HLe.new hn _
 refine Ex.forB (Its.kof ?_) (by intro uu; rfl)
 refine En ?_
 refine ⟨_, _, Itb.poly (le0.get hb), I31a H a b n p q, ⟨le0.get hb, rfl⟩, ⟨le0, rfl, rfl, rfl, MH.set_self ..⟩,?_,?_⟩
 ·rintro i x ρ1 H1 hx uu ⟨hle, h1, h2, h3, h4⟩
  obtain ⟨e, he, rfl⟩ := eP_get hx
  have hem: e ∈ q := List.mem_of_getElem? he
  refine ⟨_, Asg.name (.inl rfl),?_⟩
  refine (fun (uu: Post) (uu: PLe _ _) => ?_); refine Xc fun uu uu => ?_
  refine Ex.forB (Its.kof ?_) (by intro uu; rfl)
  refine Em h1 ?_
  refine ⟨_, _, Itb.poly (hle.get ha), fun j ρ' H' => HLe H H' ∧ ρ' "a" = some (.ref a) ∧ ρ' "b" = some (.ref b) ∧ ρ' "found" = some (.ref n) ∧ ρ' "powers" = some (MV e.1) ∧
   H'.o n = some (.poly (eP (addL [] (prods p (q.take i) ++ (p.take j).map fun e' => (mP e'.1 e.1, e'.2 * e.2))))), ⟨hle.get ha, rfl⟩, ⟨hle, h1, h2, h3, rfl, by simpa using h4⟩,?_,?_⟩
  ·rintro j x ρ2 H2 hx2 uu ⟨hle2, k1, k2, k3, k4, k5⟩
   obtain ⟨e', he', rfl⟩ := eP_get hx2
   have hem': e' ∈ p := List.mem_of_getElem? he'
   have hpre := prods_prefix (p := p) he j
   have hpre' := prods_prefix (p := p) he (j + 1)
   refine ⟨_, Asg.name (.inl rfl),?_⟩
   refine (fun (uu: Post) (uu: PLe _ _) => ?_); refine Xc fun uu uu => ?_;refine Ex.kexpr ?_;refine Ek ?_;refine Ea ?_
   refine Em k3 ?_
   refine Ea ?_;refine Ek ?_;refine Ea ?_;refine En ?_;refine Ea ?_
   refine Em k4 ?_
   refine Eo ?_
   refine cal_powers_product D fun H3 l3 => ?_
   have hle3 := hle2.trans l3
   refine Ea ?_;refine Ek ?_;refine Ea ?_;refine Eb ?_
   refine Em k1 ?_
   refine En ?_
   refine Iti.poly (hle3.get ha) (by rw [pget_eP, pg_mem ok.okp.wf.1 hem']; rfl) ?_
   refine Ea ?_;refine Eb ?_
   refine Em k2 ?_
   skip
   refine Em k4 ?_
   refine Iti.poly (hle3.get hb) (by rw [pget_eP, pg_mem ok.okq.wf.1 hem]; rfl) ?_
   refine Eo ?_
   refine cal_rmul D (ok.okp.sz _ hem') (ok.okq.sz _ hem) ?_
   refine Eo ?_
   refine cal_add_term D (l3.get k5) (fun x hx => ⟨ok.part _ hpre _ (pg_some hx),?_⟩) ?_ fun v H4 up4 h5 => ?_
   ·refine ok.each (mP e'.1 e.1, e'.2 * e.2) (hpre'.sublist.subset ?_)
    rw [take_succ_get he', List.map_append]
    simp
   ·have h1 := addL_length [] (prods p (q.take i) ++ (p.take j).map fun e' => (mP e'.1 e.1, e'.2 * e.2))
    have h2 := hpre.length_le
    have h3 := ok.len
    simp only [List.length_nil] at h1
    lia
   ·refine Tn ?_;refine Xo ?_
    have hle4: HLe H H4 := HUp.le hle3 hn up4
    refine Lp.next (by assumption) ?_;refine ⟨⟨hle4.get ha, (hle4.vr ha).trans (hle.vr ha).symm⟩, hle4, k1, k2, k3, k4,?_⟩
    rw [h5, take_succ_get he', List.map_append, ← List.append_assoc]
    show some (MO.poly (eP (addL (addL [] _) [(mP e'.1 e.1, e'.2 * e.2)]))) = _
    rw [← addL_append]; rfl
  ·rintro ρ2 H2 uu ⟨hle2, k1, k2, k3, k4, k5⟩
   rw [eP_mv_length, List.take_length] at k5
   refine Tn ?_;refine Xo ?_
   refine Lp.next (by assumption) ?_;refine ⟨⟨hle2.get hb, (hle2.vr hb).trans (le0.vr hb).symm⟩, hle2, k1, k2, k3,?_⟩
   rw [k5, take_succ_get he, prods_append, prods_one]
 ·rintro ρ' H' uu ⟨hle, h1, h2, h3, h4⟩
  rw [eP_mv_length, List.take_length] at h4
  refine Tn ?_;refine Xc fun uu uu => ?_;refine Xr ?_
  refine Em h3 ?_
  refine Tq ?_
  exact h n H' hle hn h4
noncomputable def idxV: Option Nat → V
 | some i => .int (i: Nat)
 | none => .int (-1)
theorem enumV_get' {xs: List V} {i: Nat} {y: V} (h: (enumV 0 xs)[i]? = some y): ∃ x, xs[i]? = some x ∧ y = .tup [.int (i: Nat), x] := by
 obtain ⟨x, h1, h2⟩ := enumV_get h
 exact ⟨x, h1, by rw [h2]; simp⟩
theorem cal_first_divisor (D: Wd w B) {l: Addr} {m: Mo} {ls: List (Option (Mo × Rat))} (hl: H.o l = some (.list (ls.map leadV)))
  (h: Q (idxV (fstDiv m ls)) H): Cal w B (d + 2) (.ref 188) [MV m, .ref l] H Q := by
 refine Cal.enter (names := ["powers", "leads"]) D rfl rfl (by exact len2 fun uu uu => rfl) (by decide) rfl (by decide) fun L => ?_
 refine Xc fun uu uu => ?_
 refine Ex.forB ?_ (by intro uu; rfl)
 refine Its.kenum ?_
 refine En ?_
 refine Or.inl ⟨_, _, rfl, hl, fun i ρ' H' => H' = H ∧ ρ' "powers" = some (MV m) ∧ ∀ j, j < i → ∀ x, ls[j]? = some x → hits m x = false, hl, ⟨rfl, rfl, by lia⟩,?_,?_⟩
 ·rintro i x ρ' H' hx uu ⟨rfl, h1, h2⟩
  obtain ⟨y, hy, rfl⟩ := enumV_get' hx
  rw [List.getElem?_map] at hy
  obtain ⟨lv, hlv, rfl⟩ := Option.map_eq_some_iff.mp hy
  refine ⟨_, Asg.pair (.inl rfl) (.inl rfl),?_⟩
  have next: hits m lv = false → (fun (ρ2: Rho) (H2: MH) => H2.o l = some (.list (ls.map leadV)) ∧ H2 = H' ∧ ρ2 "powers" = some (MV m) ∧ ∀ j, j < i + 1 → ∀ x, ls[j]? = some x → hits m x = false) ((ρ'.set "at" (.int (i: Nat))).set "one" (leadV lv)) H' := by
   intro hh
   refine ⟨hl, rfl, h1, fun j hj z hz => ?_⟩
   by_cases q: j = i
   ·subst q; rw [hlv] at hz; cases hz; exact hh
   ·exact h2 j (by lia) z hz
  cases lv with
  | none =>
   simp only [leadV]
   refine (fun (uu: Post) (uu: PLe _ _) => ?_); refine Xc fun uu uu => ?_;refine Xi ?_;refine Ts.bool ?_;refine Al.kand ?_;refine Tk ?_;refine En ?_;refine Ev.const_none ?_;refine Cmp.isnot_none ?_;refine ⟨_, rfl,?_⟩
   refine iteF (by decide) ?_
   refine iteF (by decide) ?_
   refine Xo ?_;refine Tn ?_;refine Xo ?_
   refine Lp.next (by assumption) ?_; exact next rfl
  | some lv =>
   simp only [leadV]
   refine (fun (uu: Post) (uu: PLe _ _) => ?_); refine Xc fun uu uu => ?_;refine Xi ?_;refine Ts.bool ?_;refine Al.kand ?_;refine Tk ?_;refine En ?_;refine Ev.const_none ?_;refine Cmp.isnot_none_ne (by intro q; cases q) ?_;refine ⟨_, rfl,?_⟩
   refine iteT (by decide) ?_
   refine Al.kand ?_
   refine Ts.kval ?_ (by intro uu; rfl)
   refine Ek ?_;refine Ea ?_;refine Eb ?_;refine En ?_;refine Ei ?_;refine Iu ?_;refine Ea ?_
   refine Em h1 ?_
   refine Eo ?_
   refine cal_powers_divide D ?_
   refine Tt.bool ?_
   by_cases q: mdiv lv.1 m = true
   ·rw [q]
    refine iteT rfl ?_
    refine Al.and_nil ?_
    refine iteT rfl ?_
    refine Xc fun uu uu => ?_;refine Xr ?_;refine En ?_;refine Tq ?_;refine Tq ?_
    refine Lp.ret (by assumption) ?_
    refine Tq ?_
    have e: fstDiv m ls = some i := by
     obtain ⟨hi, hie⟩ := List.getElem?_eq_some_iff.mp hlv
     refine List.findIdx?_eq_some_iff_getElem.mpr ⟨hi,?_, fun j hj => ?_⟩
     ·rw [hie]; exact q
     ·have := h2 j hj _ (List.getElem?_eq_getElem (by lia))
      rw [this]; simp
    rw [e] at h; exact h
   ·have q': mdiv lv.1 m = false := by simpa using q
    rw [q']
    refine iteF (by decide) ?_
    refine iteF (by decide) ?_
    refine Xo ?_;refine Tn ?_;refine Xo ?_
    refine Lp.next (by assumption) ?_; exact next q'
 ·rintro ρ' H' uu ⟨rfl, h1, h2⟩
  refine Tn ?_;refine Xc fun uu uu => ?_;refine Xr ?_;refine Ev.kun ?_;refine Ei ?_;refine Un.neg_int ?_;refine Tq ?_
  have e: fstDiv m ls = none := by
   refine List.findIdx?_eq_none_iff.mpr fun x hx => ?_
   obtain ⟨j, hj, hje⟩ := List.mem_iff_getElem.mp hx
   exact h2 j (by rw [enumV_length, List.length_map]; exact hj) x (by rw [List.getElem?_eq_getElem hj, hje])
  rw [e] at h; exact h
end

section
variable {w: World} {B: Heap} {env: Env} {d: Nat} {ρ: Rho} {H: MH}
variable {Q: V → MH → Prop}
set_option maxHeartbeats 1000000
noncomputable def PList (H: MH) (rs: List Addr) (ps: List Po): Prop := All2 (fun r p => H.o r = some (.poly (eP p))) rs ps
theorem PList.length {rs: List Addr} {ps: List Po} (x: PList H rs ps): rs.length = ps.length := All2.length x
theorem PList.le {H': MH} {rs: List Addr} {ps: List Po} (x: PList H rs ps) (l: HLe H H'): PList H' rs ps := All2.mono (fun uu uu h => l.get h) x
theorem PList.get {rs: List Addr} {ps: List Po} {i: Nat} {r: Addr} (x: PList H rs ps) (h: rs[i]? = some r): ∃ p, ps[i]? = some p ∧ H.o r = some (.poly (eP p)) := by
 unfold PList at x
 induction x generalizing i with
 | nil => simp at h
 | cons a uu ih =>
  cases i with
  | zero => simp at h; subst h; exact ⟨_, rfl, a⟩
  | succ i => simp at h; simpa using ih h
theorem PList.get' {rs: List Addr} {ps: List Po} {i: Nat} {p: Po} (x: PList H rs ps) (h: ps[i]? = some p): ∃ r, rs[i]? = some r ∧ H.o r = some (.poly (eP p)) := by
 obtain ⟨r, h1, h2⟩ := All2.get x h
 exact ⟨r, h1, h2⟩
theorem PList.append {rs rs': List Addr} {ps ps': List Po} (x: PList H rs ps) (y: PList H rs' ps'): PList H (rs ++ rs') (ps ++ ps') := All2.append x y
theorem PList.set {H': MH} {rs: List Addr} {ps: List Po} {i: Nat} {r: Addr} {p: Po} (x: PList H rs ps) (hn: rs.Nodup) (hr: rs[i]? = some r) (up: HUp r H H') (h: H'.o r = some (.poly (eP p))): PList H' rs (ps.set i p) := by
 unfold PList at x ⊢
 induction x generalizing i with
 | nil => simp at hr
 | @cons a b as bs e rest ih =>
  rw [List.nodup_cons] at hn
  cases i with
  | zero =>
   simp at hr; subst hr
   refine .cons h ?_
   have: ∀ {as: List Addr} {bs: List Po}, a ∉ as → All2 (fun r p => H.o r = some (.poly (eP p))) as bs → All2 (fun r p => H'.o r = some (.poly (eP p))) as bs := by
    intro as bs hna hx
    induction hx with
    | nil => exact .nil
    | cons e uu ih2 =>
     rw [List.mem_cons, not_or] at hna
     exact .cons (up.get e (Ne.symm hna.1)) (ih2 hna.2)
   exact this hn.1 rest
  | succ i =>
   simp at hr
   have hne: a ≠ r := fun q => hn.1 (q ▸ List.mem_of_getElem? hr)
   exact .cons (up.get e hne) (ih hn.2 hr)
theorem PList.up {H': MH} {c: Addr} {rs: List Addr} {ps: List Po} (x: PList H rs ps) (up: HUp c H H') (hc: c ∉ rs): PList H' rs ps := by
 unfold PList at x ⊢
 induction x with
 | nil => exact .nil
 | cons e uu ih =>
  rw [List.mem_cons, not_or] at hc
  exact .cons (up.get e (Ne.symm hc.1)) (ih hc.2)
theorem PList.nil: PList H [] [] := All2.nil
theorem rs_get {rs: List Addr} {i: Nat} {x: V} (h: (rs.map V.ref)[i]? = some x): ∃ r, rs[i]? = some r ∧ x = .ref r := by
 rw [List.getElem?_map] at h
 obtain ⟨r, h1, h2⟩ := Option.map_eq_some_iff.mp h
 exact ⟨r, h1, h2.symm⟩
inductive DInv (o: Od) (ps: List Po) (fin: DSt) (l ll ql: Addr) (qrs: List Addr) (H: MH) (n: Nat) (ρ': Rho) (H': MH): Prop
 | mk (st: DSt) (r0 lf: Addr) (run: DRun o ps (ps.map (lead o)) n st fin) (hle: HLe H H') (v1: ρ' "order" = some (oV o)) (v2: ρ' "some" = some (.ref l)) (v3: ρ' "leads" = some (.ref ll)) (v4: ρ' "quotients" = some (.ref ql)) (v5: ρ' "rest" = some (.ref r0)) (v6: ρ' "left" = some (.ref lf))
   (o1: H'.o ll = some (.list (ps.map fun p => leadV (lead o p)))) (o2: H'.o ql = some (.list (qrs.map V.ref))) (o3: PList H' qrs st.qs) (o4: H'.o r0 = some (.poly (eP st.rest))) (o5: H.o r0 = none) (o6: r0 ∉ qrs) (o7: H'.o lf = some (.poly (eP st.left))) (o8: H.o lf = none) (o9: lf ∉ qrs) (o10: lf ≠ r0)
inductive I32 (H2: MH) (i: Nat) (ys: List V) (H': MH): Prop
 | mk (c1: HLe H2 H') (qrs: List Addr) (c2: ys = qrs.map V.ref) (c3: qrs.length = i) (c4: qrs.Nodup) (c5: ∀ r ∈ qrs, H2.o r = none ∧ H'.o r = some (.poly []))
theorem cal_mvdivide (D: Wd w B) {o: Od} {f l: Addr} {rs: List Addr} {pf: Po} {ps: List Po} {fin: DSt} (hf: H.o f = some (.poly (eP pf))) (hl: H.o l = some (.list (rs.map V.ref))) (hp: PList H rs ps) (hlen: rs.length ≤ 1000)
  (hd: Div o pf ps fin)
  (h: ∀ ql qrs r0 H', HLe H H' → H.o ql = none → H'.o ql = some (.list (qrs.map V.ref)) → PList H' qrs fin.qs → (∀ r ∈ qrs, H.o r = none) → H.o r0 = none → H'.o r0 = some (.poly (eP fin.rest)) → Q (.tup [.ref ql, .ref r0]) H') :
  Cal w B (d + 7) (.ref 193) [.ref f, .ref l, oV o] H Q := by
 obtain ⟨okf, okp, n0, run⟩ := hd
 have hpl := hp.length
 have okpi: ∀ {i p}, ps[i]? = some p → OkP p := fun h => okp _ (List.mem_of_getElem? h)
 refine Cal.enter (names := ["f", "some", "order"]) D rfl rfl (by exact len3 fun uu uu uu => rfl) (by decide) rfl (by decide) fun L => ?_
 refine Xc fun uu uu => ?_
 refine Ex.klca ?_
 refine Its.kof ?_
 refine En ?_
 refine ⟨_, _, Itb.list hl, CompL.map (zs := ps.map fun p => leadV (lead o p)) (by simp [hpl]) (fun H' hle => hle.get hl) (by simp; lia) (fun L i x H' hx hle => ?_) fun H1 l1 ll hll => ?_⟩
 ·obtain ⟨r, hr, rfl⟩ := rs_get hx
  obtain ⟨p, hpi, hrp⟩ := hp.get hr
  refine ⟨_, AsgL.name rfl, by repeat first | exact sub_inner | refine sub_set rfl ?_,?_⟩
  refine Ek ?_;refine Ea ?_;refine En ?_;refine Ea ?_;refine En ?_;refine Eo ?_
  refine cal_mvlead D (hle.get hrp) (okpi hpi).wf.1 fun H2 l2 => ⟨hle.trans l2,?_⟩
  rw [List.getElem?_map, hpi]; rfl
 have l1': HLe H (H1.set ll (.list (ps.map fun p => leadV (lead o p)))) := l1.trans (HLe.new hll _)
 have nll: H.o ll = none := l1.none hll
 generalize hH2: H1.set ll (.list (ps.map fun p => leadV (lead o p))) = H2 at l1'
 have hll2: H2.o ll = some (.list (ps.map fun p => leadV (lead o p))) := by rw [← hH2, MH.set_self]
 refine Tn ?_
 refine Xc fun uu uu => ?_
 refine Ex.klca ?_
 refine Its.kof ?_
 refine En ?_
 have hl2 := l1'.get hl
 refine ⟨_, _, Itb.list hl2, I32 H2, hl2, ⟨HLe.refl _, [], rfl, rfl, .nil, by simp⟩, by simp; lia,?_,?_⟩
 ·rintro L i x ys H' hx uu ⟨hle, qrs, rfl, hi, hn, hq⟩
  refine ⟨_, AsgL.name rfl, by repeat first | exact sub_inner | refine sub_set rfl ?_,?_⟩
  unfold If1
  dsimp only [TB, TE]
  rw [if_pos rfl]
  with_reducible refine Ev.dict0 fun n hn' => ?_
  have l3: HLe H2 (H'.set n (.poly [])) := hle.trans (HLe.new hn' _)
  have hnq: n ∉ qrs := fun q => by have := (hq n q).2; rw [hn'] at this; exact nsF this
  refine ⟨l3.get hl2, l3, qrs ++ [n], by simp, by simp [hi],?_, fun r hr => ?_⟩
  ·exact List.nodup_append.mpr ⟨hn, by simp, fun a ha b hb => by rw [List.mem_singleton] at hb; subst hb; exact fun q => hnq (q ▸ ha)⟩
  ·rcases List.mem_append.mp hr with hr' | hr'
   ·refine ⟨(hq r hr').1,?_⟩
    rw [MH.set_ne]
    ·exact (hq r hr').2
    ·rintro rfl; exact hnq hr'
   ·rw [List.mem_singleton] at hr'; subst hr'
    exact ⟨hle.none hn', MH.set_self ..⟩
 rintro ys H3 uu ⟨l3, qrs, rfl, hi, hnq, hq⟩ ql hql
 have l3': HLe H (H3.set ql (.list (qrs.map V.ref))) := (l1'.trans l3).trans (HLe.new hql _)
 have nql: H.o ql = none := (l1'.trans l3).none hql
 have hllq: (H3.set ql (.list (qrs.map V.ref))).o ll = some (.list (ps.map fun p => leadV (lead o p))) := (l3.trans (HLe.new hql _)).get hll2
 have hqq: ∀ r ∈ qrs, H.o r = none ∧ (H3.set ql (.list (qrs.map V.ref))).o r = some (.poly []) := fun r hr => by
  refine ⟨l1'.none (hq r hr).1,?_⟩
  rw [MH.set_ne]
  ·exact (hq r hr).2
  ·rintro rfl; have := (hq r hr).2; rw [hql] at this; exact nsF this
 have hqql: (H3.set ql (.list (qrs.map V.ref))).o ql = some (.list (qrs.map V.ref)) := MH.set_self ..
 revert l3' hllq hqq hqql
 refine gen_ (H3.set ql (.list (qrs.map V.ref))) ?_
 intro H4 l3' hllq hqq hqql
 refine Tn ?_;refine Xc fun uu uu => ?_;refine Ex.kpairS ?_;refine Et ?_;refine Ea ?_
 with_reducible refine Ev.dict0 fun r0 hr0 => ?_
 have l5: HLe H (H4.set r0 (.poly [])) := l3'.trans (HLe.new hr0 _)
 have nr0: H.o r0 = none := l3'.none hr0
 have k5: HLe H4 (H4.set r0 (.poly [])) := HLe.new hr0 _
 have hr0': (H4.set r0 (.poly [])).o r0 = some (.poly (eP [])) := MH.set_self ..
 have r0q: r0 ∉ qrs := fun q => by have := (hqq r0 q).2; rw [hr0] at this; exact nsF this
 revert l5 k5 hr0'
 refine gen_ (H4.set r0 (.poly [])) ?_
 intro H5 l5 k5 hr0'
 refine Ea ?_;refine Ev.kcall_ty ?_;refine Ea ?_;refine En ?_;refine Eo ?_
 refine Cal.dict_copy (l5.get hf) okf.hash (by rw [eP_length]; exact Nat.le_trans okf.len (by decide)) fun lf hlf => ?_
 have l6: HLe H (H5.set lf (.poly (eP pf))) := l5.trans (HLe.new hlf _)
 have nlf: H.o lf = none := l5.none hlf
 have k6: HLe H5 (H5.set lf (.poly (eP pf))) := HLe.new hlf _
 have hlf': (H5.set lf (.poly (eP pf))).o lf = some (.poly (eP pf)) := MH.set_self ..
 have lfq: lf ∉ qrs := fun q => by have := k5.get (hqq lf q).2; rw [hlf] at this; exact nsF this
 have lfr: lf ≠ r0 := fun q => by rw [q, hr0'] at hlf; exact snF hlf
 revert l6 k6 hlf'
 refine gen_ (H5.set lf (.poly (eP pf))) ?_
 intro H6 l6 k6 hlf'
 refine Eo ?_;refine ⟨_, _, rfl,?_⟩; refine Tn ?_;refine Xc fun uu uu => ?_
 have k46 := k5.trans k6
 have hpq: PList H6 qrs (ps.map fun uu => []) := by
  have hlq: qrs.length = ps.length := by rw [hi, List.length_map, hpl]
  have hall: ∀ r ∈ qrs, H6.o r = some (.poly (eP [])) := fun r hr => k46.get (hqq r hr).2
  clear hqql hpl hp okp okpi run hllq hll2 l1' hH2 h hi hnq hq hqq r0q lfq
  induction qrs generalizing ps with
  | nil => cases ps with
   | nil => exact .nil
   | cons => simp at hlq
  | cons r qrs ih => cases ps with
   | nil => simp at hlq
   | cons p ps => exact .cons (hall r (.head _)) (ih (by simpa using hlq) fun r hr => hall r (.tail _ hr))
 refine Ex.whileB (DInv o ps fin l ll ql qrs H)
  n0 ⟨_, r0, lf, run, l6, rfl, rfl, rfl, rfl, rfl, rfl, k46.get hllq, k46.get hqql, hpq, k6.get hr0', nr0, r0q, hlf', nlf, lfq, lfr⟩ ?_
 rintro n ρ' H' ⟨st, r1, le, run', hle, v1, v2, v3, v4, v5, v6, o1, o2, o3, o4, o5, o6, o7, o8, o9, o10⟩
 have nqr: ∀ r ∈ qrs, H.o r = none := fun r hr => (hqq r hr).1
 have nlist: ∀ {c: Addr} {xs: List V} {p: Po}, H'.o c = some (.list xs) → ∀ {e: Addr}, H'.o e = some (.poly (eP p)) → c ≠ e := fun h1 uu h2 q => by rw [q, h2] at h1; cases h1
 cases run' with
 | stop hst =>
  refine Tk ?_ (by with_unfolding_all rfl)
  refine Ev.kcall_bi ?_;refine Ea ?_
  refine Em v6 ?_
  refine Eo ?_
  refine Cal.len_poly o7 ?_ (by rw [hst]; decide)
  refine Ei ?_;refine Cmp.gt_int ?_;refine ⟨_, rfl,?_⟩
  rw [hst]
  refine iteF (by decide) ?_
  refine Tn ?_;refine Xc fun uu uu => ?_;refine Xr ?_;refine Et ?_;refine Ea ?_
  refine Em v4 ?_
  refine Ea ?_
  refine Em v5 ?_
  refine Eo ?_;refine Tq ?_
  exact h ql qrs r1 H' hle nql o2 o3 nqr o5 o4
 | @step n uu st' uu okl okr hstep run'' =>
  have hll7 := okl.len
  have hlr7 := okr.len
  refine Tk ?_ (by with_unfolding_all rfl)
  refine Ev.kcall_bi ?_;refine Ea ?_
  refine Em v6 ?_
  refine Eo ?_
  refine Cal.len_poly o7 ?_ (by rw [eP_length]; lia)
  refine Ei ?_;refine Cmp.gt_int ?_;refine ⟨_, rfl,?_⟩
  cases hstep with
  | @out m c hlead hfst =>
   have hmem := lead_mem hlead
   refine iteT (by rw [eP_length]; have := List.length_pos_of_mem hmem; simpa using this) ?_
   refine (fun (uu: Post) (uu: PLe _ _) => ?_); refine Xc fun uu uu => ?_;refine Ex.kpair ?_;refine Ek ?_;refine Ea ?_
   refine Em v6 ?_
   refine Ea ?_
   refine Em v1 ?_
   refine Eo ?_
   refine cal_mvlead D o7 okl.wf.1 fun H7 l7 => ?_
   rw [hlead]
   simp only [leadV]
   refine ⟨_, _, rfl,?_⟩; refine Tn ?_;refine Xc fun uu uu => ?_;refine Xa ?_;refine Ek ?_;refine Ea ?_;refine En ?_;refine Ea ?_
   refine Em v3 ?_
   refine Eo ?_
   refine cal_first_divisor D (ls := ps.map (lead o)) (by rw [List.map_map]; exact l7.get o1) ?_
   rw [hfst]
   simp only [idxV]
   refine Tn ?_;refine Xc fun uu uu => ?_;refine Xi ?_;refine Tk ?_;refine En ?_;refine Ei ?_;refine Cmp.lt_int ?_;refine ⟨_, rfl,?_⟩
   refine iteT rfl ?_
   refine Xc fun uu uu => ?_
   refine Ex.kassign_sub ?_
   refine En ?_
   refine Em v5 ?_
   refine En ?_
   refine Or.inr ⟨r1, _, eM m, eR c, rfl, l7.get o4, by rw [eP_length]; lia, rfl, rfl,?_⟩
   rw [pput_eP]
   have up8: HUp r1 H7 (H7.set r1 (.poly (eP (pp st.rest m c)))) := HUp.set _ _ _
   have s8: (H7.set r1 (.poly (eP (pp st.rest m c)))).o r1 = some (.poly (eP (pp st.rest m c))) := MH.set_self ..
   revert up8 s8
   refine gen_ (H7.set r1 (.poly (eP (pp st.rest m c)))) ?_
   intro H8 up8 s8
   have hle8: HLe H H8 := HUp.le (hle.trans l7) o5 up8
   have q7 := up8.get (l7.get o7) o10
   refine Tn ?_;refine Xc fun uu uu => ?_;refine Ex.kexpr ?_
   refine Ev.kmethod (id := "dict.pop") PySem.F.plainAttrs_dict PySem.F.slot_dict_pop PySem.F.type_dict_pop ?_
   skip
   refine Em v6 ?_
   refine ⟨OnT.poly q7,?_⟩
   refine Ea ?_;refine En ?_;refine Eo ?_
   refine Cal.dpop q7 (by rw [eP_length]; lia) (by rw [pget_eP, pg_mem okl.wf.1 hmem]; rfl) ?_
   rw [pdel_eP]
   have up9: HUp le H8 (H8.set le (.poly (eP (pd st.left m)))) := HUp.set _ _ _
   have s9: (H8.set le (.poly (eP (pd st.left m)))).o le = some (.poly (eP (pd st.left m))) := MH.set_self ..
   revert up9 s9
   refine gen_ (H8.set le (.poly (eP (pd st.left m)))) ?_
   intro H9 up9 s9
   refine Tn ?_;refine Xc fun uu uu => ?_;refine Ex.cont_ ?_;refine Then.kcont ?_;refine Then.kcont ?_
   refine Lp.cont (by assumption) ?_;refine ⟨n, Nat.lt_succ_self _, _, r1, le, run'', HUp.le hle8 o8 up9, v1, v2, v3, v4, v5, v6,?_,?_,?_,?_, o5, o6, s9, o8, o9, o10⟩
   ·exact up9.get (up8.get (l7.get o1) (nlist o1 o4)) (nlist o1 o7)
   ·exact up9.get (up8.get (l7.get o2) (nlist o2 o4)) (nlist o2 o7)
   ·exact ((o3.le l7).up up8 o6).up up9 o9
   ·exact up9.get s8 (Ne.symm o10)
  | @via m c i lm lc b q hlead hfst hli hlc0 hlcs hbi hqi okb okq oks okf' =>
   have hmem := lead_mem hlead
   refine iteT (by rw [eP_length]; have := List.length_pos_of_mem hmem; simpa using this) ?_
   refine (fun (uu: Post) (uu: PLe _ _) => ?_); refine Xc fun uu uu => ?_;refine Ex.kpair ?_;refine Ek ?_;refine Ea ?_
   refine Em v6 ?_
   refine Ea ?_
   refine Em v1 ?_
   refine Eo ?_
   refine cal_mvlead D o7 okl.wf.1 fun H7 l7 => ?_
   rw [hlead]
   simp only [leadV]
   refine ⟨_, _, rfl,?_⟩; refine Tn ?_;refine Xc fun uu uu => ?_;refine Xa ?_;refine Ek ?_;refine Ea ?_;refine En ?_;refine Ea ?_
   refine Em v3 ?_
   refine Eo ?_
   refine cal_first_divisor D (ls := ps.map (lead o)) (by rw [List.map_map]; exact l7.get o1) ?_
   rw [hfst]
   simp only [idxV]
   have hil: i < 1000 := by
    have := (List.getElem?_eq_some_iff.mp hbi).1; lia
   have hli': (ps.map fun p => leadV (lead o p))[i]? = some (.tup [MV lm, RV lc]) := by
    have: (ps.map (lead o)).map leadV = ps.map fun p => leadV (lead o p) := by rw [List.map_map]; rfl
    rw [← this, List.getElem?_map, hli]; rfl
   have hdiv: mdiv lm m = true := by
    have := (List.findIdx?_eq_some_iff_getElem.mp hfst)
    obtain ⟨h1, h2, uu⟩ := this
    have e := List.getElem?_eq_getElem h1
    rw [hli] at e
    injection e with e
    rw [← e] at h2; exact h2
   have cm: SzB c := okl.sz _ hmem
   refine Tn ?_;refine Xc fun uu uu => ?_;refine Xi ?_;refine Tk ?_;refine En ?_;refine Ei ?_;refine Cmp.lt_int ?_;refine ⟨_, rfl,?_⟩
   refine iteF (by simp) ?_
   refine Xo ?_;refine Tn ?_;refine Xc fun uu uu => ?_;refine Ex.kpairS ?_;refine Et ?_;refine Ea ?_;refine Ek ?_;refine Ea ?_;refine En ?_;refine Ea ?_;refine Eb ?_;refine Eb ?_
   refine Em v3 ?_
   refine En ?_
   refine Iti.list (l7.get o1) (by lia) (by lia) (by simpa using hli') ?_
   refine Ei ?_;refine Iu ?_;refine Eo ?_
   refine cal_powers_quotient D hdiv fun H8 l8 => ?_
   have l78 := l7.trans l8
   refine Ea ?_;refine Ek ?_;refine Ea ?_;refine En ?_;refine Ea ?_;refine Eb ?_;refine Eb ?_
   refine Em v3 ?_
   refine En ?_
   refine Iti.list (l78.get o1) (by lia) (by lia) (by simpa using hli') ?_
   refine Ei ?_;refine Iu ?_;refine Eo ?_
   refine cal_rdiv D cm hlcs hlc0 ?_
   refine Eo ?_;refine ⟨_, _, rfl,?_⟩; refine Tn ?_;refine Xc fun uu uu => ?_;refine Ex.kexpr ?_;refine Ek ?_;refine Ea ?_;refine Eb ?_
   refine Em v4 ?_
   refine En ?_
   obtain ⟨qi, hqr, hqo⟩ := o3.get' hqi
   have hqm: qi ∈ qrs := List.mem_of_getElem? hqr
   refine Iti.list (l78.get o2) (by lia) (by lia) (by rw [Int.toNat_natCast, List.getElem?_map, hqr]; rfl) ?_
   refine Ea ?_;refine En ?_;refine Ea ?_;refine En ?_;refine Eo ?_
   refine cal_add_term D (l78.get hqo) (fun x hx => ⟨okq.sz _ (pg_some hx), okf'⟩) (Nat.le_trans okq.len (by decide)) fun v H9 up9 s9 => ?_
   have hle9: HLe H H9 := HUp.le (hle.trans l78) (nqr _ hqm) up9
   have q7 := up9.get (l78.get o7) (fun e => o9 (e ▸ hqm))
   refine Tn ?_;refine Xc fun uu uu => ?_;refine Xa ?_;refine Ek ?_;refine Ea ?_
   refine Em v6 ?_
   refine Ea ?_;refine Ek ?_;refine Ea ?_;refine Eb ?_
   refine Em v2 ?_
   refine En ?_
   obtain ⟨ri, hri, hro⟩ := hp.get' hbi
   refine Iti.list (hle9.get hl) (by lia) (by lia) (by rw [Int.toNat_natCast, List.getElem?_map, hri]; rfl) ?_
   refine Ea ?_;refine En ?_;refine Ea ?_;refine En ?_;refine Eo ?_
   refine cal_mvshift D (hle9.get hro) okb okf' fun k H10 l10 hk10 s10 => ?_
   refine Eo ?_
   refine cal_mvsub D (l10.get q7) s10 okl oks fun k2 H11 l11 hk11 s11 => ?_
   have hle11 := (hle9.trans l10).trans l11
   have l911 := l10.trans l11
   refine Tn ?_;refine Xo ?_
   have up11 := up9.trans (l911.up qi)
   refine Lp.next (by assumption) ?_;refine ⟨n, Nat.lt_succ_self _, _, r1, k2, run'', hle11, v1, v2, v3, v4, v5, rfl,?_,?_,?_,?_, o5, o6, s11, hle9.none (l10.none hk11),?_,?_⟩
   ·exact up11.get (l78.get o1) (nlist o1 hqo)
   ·exact up11.get (l78.get o2) (nlist o2 hqo)
   ·exact (o3.le l78).set hnq hqr up11 (l911.get s9)
   ·exact up11.get (l78.get o4) (fun e => o6 (e ▸ hqm))
   ·intro hm
    have h1 := ((o3.le l78).set hnq hqr up9 s9)
    obtain ⟨j, hj⟩ := List.getElem?_of_mem hm
    obtain ⟨p, uu, hp2⟩ := h1.get hj
    have := l10.get hp2
    rw [hk11] at this; exact nsF this
   ·intro e
    have := l10.get (up9.get (l78.get o4) (fun e => o6 (e ▸ hqm)))
    rw [← e, hk11] at this; exact nsF this
end

section
variable {w: World} {B: Heap} {env: Env} {d: Nat} {ρ: Rho} {H: MH}
variable {Q: V → MH → Prop}
set_option maxHeartbeats 1000000
theorem cal_rest_of (D: Wd w B) {o: Od} {f l: Addr} {rs: List Addr} {pf: Po} {ps: List Po} {fin: DSt} (hf: H.o f = some (.poly (eP pf))) (hl: H.o l = some (.list (rs.map V.ref))) (hp: PList H rs ps) (hlen: rs.length ≤ 1000)
  (hd: Div o pf ps fin) (h: ∀ r0 H', HLe H H' → H.o r0 = none → H'.o r0 = some (.poly (eP fin.rest)) → Q (.ref r0) H') :
  Cal w B (d + 8) (.ref 200) [.ref f, .ref l, oV o] H Q := by
 refine Cal.enter (names := ["f", "some", "order"]) D rfl rfl (by exact len3 fun uu uu uu => rfl) (by decide) rfl (by decide) fun L => ?_
 refine Xc fun uu uu => ?_;refine Xr ?_;refine Eb ?_;refine Ek ?_;refine Ea ?_;refine En ?_;refine Ea ?_;refine En ?_;refine Ea ?_;refine En ?_;refine Eo ?_
 refine cal_mvdivide D hf hl hp hlen hd fun ql qrs r0 H1 l1 uu uu uu uu h1 h2 => ?_
 refine Ei ?_;refine Iu ?_;refine Tq ?_
 exact h r0 H1 l1 h1 h2
theorem cal_mvexact0 (D: Wd w B) {a b: Addr} (hb: H.o b = some (.poly (eP []))) (h: Q .none H): Cal w B (d + 8) (.ref 207) [.ref a, .ref b] H Q := by
 refine Cal.enter (names := ["a", "b"]) D rfl rfl (by exact len2 fun uu uu => rfl) (by decide) rfl (by decide) fun L => ?_
 refine Xc fun uu uu => ?_;refine Xi ?_;refine Tk ?_;refine Ev.kcall_bi ?_;refine Ea ?_;refine En ?_;refine Eo ?_
 refine Cal.len_poly hb ?_ (by decide)
 refine Ei ?_;refine Cmp.eq_int ?_;refine ⟨_, rfl,?_⟩
 refine iteT rfl ?_
 refine Xc fun uu uu => ?_;refine Xr ?_;refine Ev.const_none ?_;refine Tq ?_;refine Tq ?_
 exact h
theorem cal_mvexact (D: Wd w B) {a b: Addr} {p q q0: Po} {fin: DSt} (ha: H.o a = some (.poly (eP p))) (hb: H.o b = some (.poly (eP q))) (hq: q ≠ []) (ok: OkP q)
  (hd: Div .lex p [q] fin) (h0: fin.qs[0]? = some q0) (hr: fin.rest.length ≤ 100000)
  (h: ∀ H', HLe H H' → (fin.rest = [] → ∀ r, H'.o r = some (.poly (eP q0)) → H.o r = none → Q (.ref r) H') ∧ (fin.rest ≠ [] → Q .none H')): Cal w B (d + 8) (.ref 207) [.ref a, .ref b] H Q := by
 refine Cal.enter (names := ["a", "b"]) D rfl rfl (by exact len2 fun uu uu => rfl) (by decide) rfl (by decide) fun L => ?_
 have hl := ok.len
 refine Xc fun uu uu => ?_;refine Xi ?_;refine Tk ?_;refine Ev.kcall_bi ?_;refine Ea ?_;refine En ?_;refine Eo ?_
 refine Cal.len_poly hb ?_ (by rw [eP_length]; lia)
 refine Ei ?_;refine Cmp.eq_int ?_;refine ⟨_, rfl,?_⟩
 refine iteF (by rw [eP_length]; have := List.length_pos_iff.mpr hq; simp; lia) ?_
 refine Xo ?_;refine Tn ?_;refine Xc fun uu uu => ?_;refine Ex.kpair ?_;refine Ek ?_;refine Ea ?_;refine En ?_;refine Ea ?_;refine Eh ?_;refine Ea ?_;refine En ?_;refine Eo ?_
 intro n hn
 refine Ea ?_;refine Ev.const_str ?_;refine Eo ?_
 have l1: HLe H (H.set n (.list [.ref b])) := HLe.new hn _
 refine cal_mvdivide (o := .lex) (rs := [b]) D (l1.get ha) (MH.set_self ..) (.cons (l1.get hb) .nil) (by simp) hd fun ql qrs r0 H2 l2 h1 h2 h3 h4 h5 h6 => ?_
 refine ⟨_, _, rfl,?_⟩; refine Tn ?_;refine Xc fun uu uu => ?_;refine Xr ?_;refine Ev.kif ?_;refine Tk ?_;refine Ev.kcall_bi ?_;refine Ea ?_;refine En ?_;refine Eo ?_
 refine Cal.len_poly h6 ?_ (by rw [eP_length]; lia)
 refine Ei ?_;refine Cmp.eq_int ?_;refine ⟨_, rfl,?_⟩
 have hh := h H2 (l1.trans l2)
 obtain ⟨r, hr1, hr2⟩ := h3.get' h0
 by_cases q: fin.rest = []
 ·refine iteT (by rw [q]; rfl) ?_
  refine Eb ?_;refine En ?_;refine Ei ?_
  refine Iti.list h2 (by decide) (by decide) (by show (qrs.map V.ref)[0]? = _; rw [List.getElem?_map, hr1]; rfl) ?_
  refine Tq ?_
  exact hh.1 q r hr2 (l1.none (h4 r (List.mem_of_getElem? hr1)))
 ·refine iteF (by rw [eP_length]; have := List.length_pos_iff.mpr q; simp; lia) ?_
  refine Ev.const_none ?_;refine Tq ?_
  exact hh.2 q
theorem mdiv_join_left (a b: Mo): mdiv a (mjoin a b) = true := Bool.and_eq_true_iff.mpr ⟨decide_eq_true (Nat.le_max_left ..), decide_eq_true (Nat.le_max_left ..)⟩
theorem mdiv_join_right (a b: Mo): mdiv b (mjoin a b) = true := Bool.and_eq_true_iff.mpr ⟨decide_eq_true (Nat.le_max_right ..), decide_eq_true (Nat.le_max_right ..)⟩
theorem cal_s_poly (D: Wd w B) {o: Od} {f g: Addr} {pf pg: Po} {lf lg: Mo × Rat} (hf: H.o f = some (.poly (eP pf))) (hg: H.o g = some (.poly (eP pg))) (okf: OkP pf) (okg: OkP pg)
  (hlf: lead o pf = some lf) (hlg: lead o pg = some lg) (ok1: OkP (shiftP pf (mM (mjoin lf.1 lg.1) lf.1) lf.2⁻¹)) (ok2: OkP (shiftP pg (mM (mjoin lf.1 lg.1) lg.1) lg.2⁻¹))
  (h: ∀ n H', HLe H H' → H.o n = none → H'.o n = some (.poly (eP (spoly pf pg lf lg))) → Q (.ref n) H'): Cal w B (d + 7) (.ref 214) [.ref f, .ref g, oV o] H Q := by
 refine Cal.enter (names := ["f", "g", "order"]) D rfl rfl (by exact len3 fun uu uu uu => rfl) (by decide) rfl (by decide) fun L => ?_
 have mf := lead_mem hlf
 have mg := lead_mem hlg
 refine Xc fun uu uu => ?_;refine Ex.kpairS ?_;refine Et ?_;refine Ea ?_;refine Ek ?_;refine Ea ?_;refine En ?_;refine Ea ?_;refine En ?_;refine Eo ?_
 refine cal_mvlead D hf okf.wf.1 fun H1 l1 => ?_
 rw [hlf]
 simp only [leadV]
 refine Ea ?_;refine Ek ?_;refine Ea ?_;refine En ?_;refine Ea ?_;refine En ?_;refine Eo ?_
 refine cal_mvlead D (l1.get hg) okg.wf.1 fun H2 l2 => ?_
 rw [hlg]
 simp only [leadV]
 refine Eo ?_;refine ⟨_, _, rfl,?_⟩; refine Tn ?_;refine Xc fun uu uu => ?_;refine Xa ?_;refine Ek ?_;refine Ea ?_;refine Eb ?_;refine En ?_;refine Ei ?_;refine Iu ?_;refine Ea ?_;refine Eb ?_;refine En ?_;refine Ei ?_;refine Iu ?_;refine Eo ?_
 refine cal_powers_join D fun H3 l3 => ?_
 refine Tn ?_;refine Xc fun uu uu => ?_;refine Xa ?_;refine Ek ?_;refine Ea ?_;refine En ?_;refine Ea ?_;refine Ek ?_;refine Ea ?_;refine En ?_;refine Ea ?_;refine Eb ?_;refine En ?_;refine Ei ?_;refine Iu ?_;refine Eo ?_
 refine cal_powers_quotient D (mdiv_join_left ..) fun H4 l4 => ?_
 refine Ea ?_;refine Ek ?_;refine Ea ?_;refine Eb ?_;refine En ?_;refine Ei ?_;refine Iu ?_;refine Eo ?_
 refine cal_rinv D (okf.wf.2 _ mf) ?_
 refine Eo ?_
 have l14 := ((l1.trans l2).trans l3).trans l4
 refine cal_mvshift D (l14.get hf) okf ((okf.sz _ mf).inv (okf.wf.2 _ mf)) fun n5 H5 l5 n5n h5 => ?_
 refine Tn ?_;refine Xc fun uu uu => ?_;refine Xr ?_;refine Ek ?_;refine Ea ?_;refine En ?_;refine Ea ?_;refine Ek ?_;refine Ea ?_;refine En ?_;refine Ea ?_;refine Ek ?_;refine Ea ?_;refine En ?_;refine Ea ?_;refine Eb ?_;refine En ?_;refine Ei ?_;refine Iu ?_;refine Eo ?_
 refine cal_powers_quotient D (mdiv_join_right ..) fun H6 l6 => ?_
 refine Ea ?_;refine Ek ?_;refine Ea ?_;refine Eb ?_;refine En ?_;refine Ei ?_;refine Iu ?_;refine Eo ?_
 refine cal_rinv D (okg.wf.2 _ mg) ?_
 refine Eo ?_
 refine cal_mvshift D (((l14.trans l5).trans l6).get hg) okg ((okg.sz _ mg).inv (okg.wf.2 _ mg)) fun n7 H7 l7 n7n h7 => ?_
 refine Eo ?_
 refine cal_mvsub D ((l6.trans l7).get h5) h7 ok1 ok2 fun n8 H8 l8 n8n h8 => ?_
 refine Tq ?_
 have l58 := ((l5.trans l6).trans l7).trans l8
 exact h n8 H8 (l14.trans l58) (((l14.trans l5).trans (l6.trans l7)).none n8n) h8
theorem cal_is_divided (D: Wd w B) {l: Addr} {m: Mo} {ls: List Mo} (hl: H.o l = some (.list (ls.map MV))) (hlen: ls.length ≤ 1000)
  (h: ∀ H', HLe H H' → Q (.bool (fstDiv m (ls.map fun x => some (x, 1))).isSome) H'): Cal w B (d + 3) (.ref 219) [MV m, .ref l] H Q := by
 refine Cal.enter (names := ["powers", "leads"]) D rfl rfl (by exact len2 fun uu uu => rfl) (by decide) rfl (by decide) fun L => ?_
 refine Xc fun uu uu => ?_;refine Xr ?_;refine Ev.kcmp ?_;refine Ek ?_;refine Ea ?_;refine En ?_;refine Ea ?_
 refine Ev.klc ?_
 refine Its.kof ?_
 refine En ?_
 refine ⟨_, _, Itb.list hl, CompL.map (zs := (ls.map fun x => some (x, (1: Rat))).map leadV) (by simp) (fun H' hle => hle.get hl) (by simp; lia) (fun L i x H' hx hle => ?_) fun H1 l1 n hn => ?_⟩
 ·rw [List.getElem?_map] at hx
  obtain ⟨y, hy, rfl⟩ := Option.map_eq_some_iff.mp hx
  refine ⟨_, AsgL.name rfl, by repeat first | exact sub_inner | refine sub_set rfl ?_,?_⟩
  refine Et ?_;refine Ea ?_;refine En ?_;refine Ea ?_;refine Ev.kglob ?_;refine Eo ?_
  refine ⟨hle,?_⟩
  rw [List.getElem?_map, List.getElem?_map, hy]; rfl
 ·refine Eo ?_
  refine cal_first_divisor D (MH.set_self ..) ?_
  have hh := h _ (l1.trans (HLe.new hn (.list ((ls.map fun x => some (x, (1: Rat))).map leadV))))
  refine Ei ?_
  cases e: fstDiv m (ls.map fun x => some (x, (1: Rat))) with
  | none =>
   rw [e] at hh
   simp only [idxV]
   refine Cmp.ge_int ?_;refine Tq ?_
   exact hh
  | some i =>
   rw [e] at hh
   simp only [idxV]
   refine Cmp.ge_int ?_;refine Tq ?_
   have: decide ((0: Int) ≤ (i: Nat)) = true := by simp
   rw [this]; exact hh
end

section
variable {w: World} {B: Heap} {env: Env} {d: Nat} {ρ: Rho} {H: MH}
variable {Q: V → MH → Prop}
set_option maxHeartbeats 1000000
theorem leadAt_get {leads: List Mo} {i: Nat} (h: i < leads.length): (leads.map MV)[i]? = some (MV (leadAt leads i)) := by
 rw [List.getElem?_map, List.getElem?_eq_getElem h]
 simp only [leadAt, List.getD, List.getElem?_eq_getElem h, Option.getD_some, Option.map_some]
theorem cal_pair_key (D: Wd w B) {o: Od} {l: Addr} {p: Pr} {ls: List Mo} (hl: H.o l = some (.list (ls.map MV))) (hlen: ls.length ≤ 1000) (h1: p.1 < ls.length) (h2: p.2 < ls.length)
  (h: ∀ H', HLe H H' → Q (.tup [keyV o (pkey ls p).1, MV p]) H'): Cal w B (d + 2) (.ref 226) [MV p, .ref l, oV o] H Q := by
 refine Cal.enter (names := ["pair", "leads", "order"]) D rfl rfl (by exact len3 fun uu uu uu => rfl) (by decide) rfl (by decide) fun L => ?_
 refine Xc fun uu uu => ?_;refine Xa ?_;refine Ek ?_;refine Ea ?_;refine Eb ?_;refine En ?_;refine Eb ?_;refine En ?_;refine Ei ?_;refine Iu ?_
 refine Iti.list hl (by simp) (by simp; lia) (leadAt_get h1) ?_
 refine Ea ?_;refine Eb ?_;refine En ?_;refine Eb ?_;refine En ?_;refine Ei ?_;refine Iu ?_
 refine Iti.list hl (by simp) (by simp; lia) (leadAt_get h2) ?_
 refine Eo ?_
 refine cal_powers_join D fun H1 l1 => ?_
 refine Tn ?_;refine Xc fun uu uu => ?_;refine Xr ?_;refine Et ?_;refine Ea ?_;refine Ek ?_;refine Ea ?_;refine En ?_;refine Ea ?_;refine En ?_;refine Eo ?_
 refine cal_order_key D fun H2 l2 => ?_
 refine Ea ?_;refine En ?_;refine Eo ?_;refine Tq ?_
 exact h _ (l1.trans l2)
theorem contains_MV (ws: List Pr) (p: Pr): (ws.map eM).contains (eM p) = ws.contains p := by
 induction ws with
 | nil => rfl
 | cons x ws ih =>
  rw [List.map_cons, List.contains_cons, List.contains_cons, ih]
  congr 1
  rw [Bool.eq_iff_iff, beq_iff_eq, beq_iff_eq]
  exact eM_inj
theorem srt_V (i j: Nat): V.tup [.int (if (j: Int) < i then (j: Int) else i), .int (if (j: Int) > i then (j: Int) else i)] = MV (srt i j) := by
 simp only [MV, mv, eM, srt]
 congr 3
 ·split <;> lia
 ·congr 1
  split <;> lia
theorem anyAt_iff (t: Nat → Mo → Bool): ∀ (ls: List Mo) (a: Nat), anyAt t a ls = true ↔ ∃ j x, ls[j]? = some x ∧ t (a + j) x = true
 | [], a => by simp [anyAt]
 | m :: r, a => by
  rw [anyAt, Bool.or_eq_true, anyAt_iff t r (a + 1)]
  constructor
  ·rintro (h | ⟨j, x, h1, h2⟩)
   ·exact ⟨0, m, rfl, h⟩
   ·exact ⟨j + 1, x, by simpa using h1, by rw [show a + (j + 1) = a + 1 + j by lia]; exact h2⟩
  ·rintro ⟨j, x, h1, h2⟩
   cases j with
   | zero => simp at h1; subst h1; exact .inl h2
   | succ j => exact .inr ⟨j, x, by simpa using h1, by rw [show a + 1 + j = a + (j + 1) by lia]; exact h2⟩
inductive I34 (H: MH) (p: Pr) (ls: List Mo) (ws: List Pr) (wl: Addr) (i: Nat) (ρ': Rho) (H': MH): Prop
 | mk (c1: HLe H H') (c2: ρ' "pair" = some (MV p)) (c3: ρ' "one" = some (.int (p.1: Nat))) (c4: ρ' "other" = some (.int (p.2: Nat))) (c5: ρ' "waiting" = some (.ref wl)) (c6: ρ' "joined" = some (MV (mjoin (leadAt ls p.1) (leadAt ls p.2)))) (c7: ∀ j, j < i → ∀ x, ls[j]? = some x → chained p ws (mjoin (leadAt ls p.1) (leadAt ls p.2)) j x = false)
theorem cal_is_needless (D: Wd w B) {l wl: Addr} {p: Pr} {ls: List Mo} {ws: List Pr} (hl: H.o l = some (.list (ls.map MV))) (hw: H.o wl = some (.list (ws.map MV))) (hlen: ls.length ≤ 1000) (h1: p.1 < ls.length) (h2: p.2 < ls.length)
  (h: ∀ H', HLe H H' → Q (.bool (needless p ws ls)) H'): Cal w B (d + 3) (.ref 233) [MV p, .ref wl, .ref l] H Q := by
 refine Cal.enter (names := ["pair", "waiting", "leads"]) D rfl rfl (by exact len3 fun uu uu uu => rfl) (by decide) rfl (by decide) fun L => ?_
 refine Xc fun uu uu => ?_;refine Ex.kpair ?_;refine En ?_;refine ⟨_, _, rfl,?_⟩; refine Tn ?_;refine Xc fun uu uu => ?_;refine Xi ?_
 refine Ts.kval ?_ (by intro uu; rfl)
 refine Ek ?_;refine Ea ?_;refine Eb ?_;refine En ?_;refine En ?_
 refine Iti.list hl (by simp) (by simp; lia) (leadAt_get h1) ?_
 refine Ea ?_;refine Eb ?_;refine En ?_;refine En ?_
 refine Iti.list hl (by simp) (by simp; lia) (leadAt_get h2) ?_
 refine Eo ?_
 refine cal_are_apart D fun H1 l1 => ?_
 refine Tt.bool ?_
 by_cases ap: apart (leadAt ls p.1) (leadAt ls p.2) = true
 ·refine iteT ap ?_
  refine Xc fun uu uu => ?_;refine Xr ?_;refine Ev.const_bool ?_;refine Tq ?_;refine Tq ?_
  have: needless p ws ls = true := by unfold needless; rw [ap]; rfl
  have hh := h H1 l1
  rw [this] at hh; exact hh
 ·refine iteF ap ?_
  have ap': apart (leadAt ls p.1) (leadAt ls p.2) = false := by simpa using ap
  refine Xo ?_;refine Tn ?_;refine Xc fun uu uu => ?_;refine Xa ?_;refine Ek ?_;refine Ea ?_;refine Eb ?_;refine En ?_;refine En ?_
  refine Iti.list (l1.get hl) (by simp) (by simp; lia) (leadAt_get h1) ?_
  refine Ea ?_;refine Eb ?_;refine En ?_;refine En ?_
  refine Iti.list (l1.get hl) (by simp) (by simp; lia) (leadAt_get h2) ?_
  refine Eo ?_
  refine cal_powers_join D fun H2 l2 => ?_
  have l12 := l1.trans l2
  refine Tn ?_;refine Xc fun uu uu => ?_
  refine Ex.forB ?_ (by intro uu; rfl)
  refine Its.kenum ?_
  refine En ?_
  refine Or.inl ⟨_, _, rfl, l12.get hl, I34 H p ls ws wl, l12.get hl, ⟨l12, rfl, rfl, rfl, rfl, rfl, by lia⟩,?_,?_⟩
  ·rintro i x ρ' H' hx uu ⟨hle, v1, v2, v3, v4, v5, v6⟩
   obtain ⟨y, hy, rfl⟩ := enumV_get' hx
   rw [List.getElem?_map] at hy
   obtain ⟨x, hxi, rfl⟩ := Option.map_eq_some_iff.mp hy
   refine ⟨_, Asg.pair (.inl rfl) (.inl rfl),?_⟩
   have next: chained p ws (mjoin (leadAt ls p.1) (leadAt ls p.2)) i x = false → ∀ j, j < i + 1 → ∀ z, ls[j]? = some z → chained p ws (mjoin (leadAt ls p.1) (leadAt ls p.2)) j z = false := by
    intro hh j hj z hz
    by_cases q: j = i
    ·subst q; rw [hxi] at hz; cases hz; exact hh
    ·exact v6 j (by lia) z hz
   refine (fun (uu: Post) (uu: PLe _ _) => ?_); refine Xc fun uu uu => ?_;refine Xi ?_;refine Ts.bool ?_;refine Al.kor ?_;refine Tk ?_;refine En ?_
   refine Em v1 ?_
   refine Cmp.in_ints2 ?_
   refine ⟨_, rfl,?_⟩
   by_cases hin: p.1 = i ∨ p.2 = i
   ·refine iteT (by simp only [Bool.or_eq_true, beq_iff_eq]; lia) ?_
    refine iteT rfl ?_
    refine Xc fun uu uu => ?_;refine Ex.cont_ ?_;refine Then.kcont ?_;refine Then.kcont ?_
    refine Lp.cont (by assumption) ?_;refine ⟨hle.get hl, hle, v1, v2, v3, v4, v5, next ?_⟩
    unfold chained
    rcases hin with q | q <;> simp [q]
   ·have hin': (p.1 == i || p.2 == i) = false := by simp only [Bool.or_eq_false_iff, beq_eq_false_iff_ne]; lia
    refine iteF (by simp only [Bool.or_eq_true, beq_iff_eq]; lia) ?_
    refine Al.kor ?_;refine Ts.knot ?_
    refine Ts.kval ?_ (by intro uu; rfl)
    refine Ek ?_;refine Ea ?_;refine En ?_;refine Ea ?_
    refine Em v5 ?_
    refine Eo ?_
    refine cal_powers_divide D ?_
    refine Tt.bool ?_
    by_cases hdv: mdiv x (mjoin (leadAt ls p.1) (leadAt ls p.2)) = true
    ·rw [hdv]
     refine iteF (by decide) ?_
     refine Al.or_nil ?_
     refine iteF (by decide) ?_
     refine Xo ?_;refine Tn ?_;refine Xc fun uu uu => ?_;refine Xi ?_;refine Ts.bool ?_;refine Al.kand ?_;refine Tk ?_;refine Et ?_;refine Ea ?_;refine Ev.kcall_bi ?_;refine Ea ?_
     refine Em v2 ?_
     refine Ea ?_;refine En ?_;refine Eo ?_
     refine Cal.min2 ?_
     refine Ea ?_;refine Ev.kcall_bi ?_;refine Ea ?_
     refine Em v2 ?_
     refine Ea ?_;refine En ?_;refine Eo ?_
     refine Cal.max2 ?_
     refine Eo ?_
     dsimp only [KCons, KTup]
     rw [srt_V]
     refine Em v4 ?_
     refine Cmp.notin_pairs (ps := ws.map eM) (by rw [List.map_map]; exact hle.get hw) ?_
     rw [contains_MV]
     refine ⟨_, rfl,?_⟩
     by_cases c1: ws.contains (srt p.1 i) = true
     ·rw [c1]
      refine iteF (by decide) ?_
      refine iteF (by decide) ?_
      refine Xo ?_;refine Tn ?_;refine Xo ?_
      refine Lp.next (by assumption) ?_;refine ⟨hle.get hl, hle, v1, v2, v3, v4, v5, next ?_⟩
      simp only [chained, c1, Bool.not_true, Bool.false_and, Bool.and_false]
     ·have c1': ws.contains (srt p.1 i) = false := by simpa using c1
      rw [c1']
      refine iteT rfl ?_
      refine Al.kand ?_;refine Tk ?_;refine Et ?_;refine Ea ?_;refine Ev.kcall_bi ?_;refine Ea ?_
      refine Em v3 ?_
      refine Ea ?_;refine En ?_;refine Eo ?_
      refine Cal.min2 ?_
      refine Ea ?_;refine Ev.kcall_bi ?_;refine Ea ?_
      refine Em v3 ?_
      refine Ea ?_;refine En ?_;refine Eo ?_
      refine Cal.max2 ?_
      refine Eo ?_
      dsimp only [KCons, KTup]
      rw [srt_V]
      refine Em v4 ?_
      refine Cmp.notin_pairs (ps := ws.map eM) (by rw [List.map_map]; exact hle.get hw) ?_
      rw [contains_MV]
      refine ⟨_, rfl,?_⟩
      by_cases c2: ws.contains (srt p.2 i) = true
      ·rw [c2]
       refine iteF (by decide) ?_
       refine iteF (by decide) ?_
       refine Xo ?_;refine Tn ?_;refine Xo ?_
       refine Lp.next (by assumption) ?_;refine ⟨hle.get hl, hle, v1, v2, v3, v4, v5, next ?_⟩
       simp only [chained, c2, Bool.not_true, Bool.and_false]
      ·have c2': ws.contains (srt p.2 i) = false := by simpa using c2
       rw [c2']
       refine iteT rfl ?_
       refine Al.and_nil ?_
       refine iteT rfl ?_
       refine Xc fun uu uu => ?_;refine Xr ?_;refine Ev.const_bool ?_;refine Tq ?_;refine Tq ?_
       refine Lp.ret (by assumption) ?_
       refine Tq ?_
       have: needless p ws ls = true := by
        unfold needless
        rw [ap', Bool.false_or, anyAt_iff]
        refine ⟨i, x, hxi,?_⟩
        rw [Nat.zero_add]
        simp only [chained, hin', hdv, c1', c2']; rfl
       have hh := h H' hle
       rw [this] at hh; exact hh
    ·have hdv': mdiv x (mjoin (leadAt ls p.1) (leadAt ls p.2)) = false := by simpa using hdv
     rw [hdv']
     refine iteT rfl ?_
     refine iteT rfl ?_
     refine Xc fun uu uu => ?_;refine Ex.cont_ ?_;refine Then.kcont ?_;refine Then.kcont ?_
     refine Lp.cont (by assumption) ?_;refine ⟨hle.get hl, hle, v1, v2, v3, v4, v5, next ?_⟩
     simp only [chained, hdv', Bool.and_false, Bool.false_and]
  ·rintro ρ' H' uu ⟨hle, v1, v2, v3, v4, v5, v6⟩
   refine Tn ?_;refine Xc fun uu uu => ?_;refine Xr ?_;refine Ev.const_bool ?_;refine Tq ?_
   have: needless p ws ls = false := by
    unfold needless
    rw [ap', Bool.false_or]
    refine Bool.eq_false_iff.mpr fun q => ?_
    obtain ⟨j, x, hj, hx⟩ := (anyAt_iff _ _ _).mp q
    rw [Nat.zero_add] at hx
    rw [v6 j (by rw [enumV_length, List.length_map]; exact (List.getElem?_eq_some_iff.mp hj).1) x hj] at hx
    cases hx
   have hh := h H' hle
   rw [this] at hh; exact hh
end

section
variable {w: World} {B: Heap} {env: Env} {d: Nat} {ρ: Rho} {H: MH}
variable {Q: V → MH → Prop}
set_option maxHeartbeats 1000000
theorem EqA.cast {n: Nat} {x y: V} {b c: Bool} (h: EqA H n x y b) (e: b = c): EqA H n x y c := e ▸ h
theorem keyV_eq (o: Od) (a b: Mo): EqA H 2 (keyV o a) (keyV o b) (decide (a = b)) := by
 have key: (a = b) ↔ (a.1 = b.1 ∧ a.2 = b.2) := Prod.ext_iff
 cases o with
 | lex =>
  refine EqA.cast (.tup (.cons (.int _ _ _) (.cons (.int _ _ _) (.nil _)))) ?_
  rw [Bool.eq_iff_iff, decide_eq_true_eq, key]; simp; lia
 | grlex =>
  refine EqA.cast (.tup (.cons (.int _ _ _) (.cons (.int _ _ _) (.cons (.int _ _ _) (.nil _))))) ?_
  rw [Bool.eq_iff_iff, decide_eq_true_eq, key]; simp; lia
 | grevlex =>
  refine EqA.cast (.tup (.cons (.int _ _ _) (.cons (.int _ _ _) (.cons (.int _ _ _) (.nil _))))) ?_
  rw [Bool.eq_iff_iff, decide_eq_true_eq, key]; simp; lia
theorem ltM_irr (o: Od) (a: Mo): ltM o a a = false := by cases o <;> simp [ltM]
theorem ordK (o: Od) (a b: Mo) (p q: Pr): OrdV false 3 (.tup [keyV o a, MV p]) (.tup [keyV o b, MV q]) (ltK o (a, p) (b, q)) := by
 by_cases h: a = b
 ·subst h
  refine OrdV.eq (n := 2) (fun H => (keyV_eq o a a).cast (by simp)) ?_
  by_cases h2: p = q
  ·subst h2
   refine (OrdV.eq (n := 2) (fun H => (keyV_eq .lex p p).cast (by simp)) (.nil 2)).cast ?_
   simp [ltK, ltM_irr]
  ·refine (OrdV.ne (n := 2) (xs := []) (ys := []) rfl (fun H => (keyV_eq .lex p q).cast (by simp [h2])) (keyV_lt .lex p q)).cast ?_
   simp [ltK, ltM_irr]; rfl
 ·refine (OrdV.ne (n := 2) (xs := [MV p]) (ys := [MV q]) rfl (fun H => (keyV_eq o a b).cast (by simp [h])) (keyV_lt o a b)).cast ?_
  simp [ltK, h]
noncomputable def prV: Option Pr → V
 | none => .none
 | some p => MV p
noncomputable def plV (o: Od) (ls: List Mo): Option Pr → V
 | none => .none
 | some p => .tup [keyV o (pkey ls p).1, MV p]
inductive I35 (H: MH) (l: Addr) (o: Od) (ls: List Mo) (ws: List Pr) (i: Nat) (ρ': Rho) (H': MH): Prop
 | mk (c1: HLe H H') (c2: ρ' "leads" = some (.ref l)) (c3: ρ' "order" = some (oV o)) (c4: ρ' "best" = some (prV ((ws.take i).foldl (lessP o ls) none))) (c5: ρ' "place" = some (plV o ls ((ws.take i).foldl (lessP o ls) none)))
theorem cal_least_pair (D: Wd w B) {o: Od} {l wl: Addr} {ls: List Mo} {ws: List Pr} (hl: H.o l = some (.list (ls.map MV))) (hw: H.o wl = some (.list (ws.map MV))) (hlen: ls.length ≤ 1000) (hp: ∀ p ∈ ws, p.1 < ls.length ∧ p.2 < ls.length)
  (h: ∀ H', HLe H H' → Q (prV (leastP o ls ws)) H'): Cal w B (d + 3) (.ref 240) [.ref wl, .ref l, oV o] H Q := by
 refine Cal.enter (names := ["waiting", "leads", "order"]) D rfl rfl (by exact len3 fun uu uu uu => rfl) (by decide) rfl (by decide) fun L => ?_
 refine Xc fun uu uu => ?_;refine Ex.kpair ?_;refine Et ?_;refine Ea ?_;refine Ev.const_none ?_;refine Ea ?_;refine Ev.const_none ?_;refine Eo ?_;refine ⟨_, _, rfl,?_⟩; refine Tn ?_;refine Xc fun uu uu => ?_
 refine Ex.forB (Its.kof ?_) (by intro uu; rfl)
 refine En ?_
 refine ⟨_, _, Itb.list hw, I35 H l o ls ws, hw, ⟨HLe.refl _, rfl, rfl, rfl, rfl⟩,?_,?_⟩
 ·rintro i x ρ' H' hx uu ⟨hle, v1, v2, v3, v4⟩
  rw [List.getElem?_map] at hx
  obtain ⟨p, hpi, rfl⟩ := Option.map_eq_some_iff.mp hx
  have hpm := hp p (List.mem_of_getElem? hpi)
  refine ⟨_, Asg.name (.inl rfl),?_⟩
  refine (fun (uu: Post) (uu: PLe _ _) => ?_); refine Xc fun uu uu => ?_;refine Xa ?_;refine Ek ?_;refine Ea ?_;refine En ?_;refine Ea ?_
  refine Em v1 ?_
  refine Ea ?_
  refine Em v2 ?_
  refine Eo ?_
  refine cal_pair_key D (hle.get hl) hlen hpm.1 hpm.2 fun H1 l1 => ?_
  have hle1 := hle.trans l1
  have e2: (ws.take (i + 1)).foldl (lessP o ls) none = lessP o ls ((ws.take i).foldl (lessP o ls) none) p := by rw [take_succ_get hpi, List.foldl_append]; rfl
  revert v3 v4 e2
  refine gen_ ((ws.take i).foldl (lessP o ls) none) ?_
  intro b v3 v4 e2
  refine Tn ?_;refine Xc fun uu uu => ?_;refine Xi ?_;refine Ts.bool ?_;refine Al.kor ?_;refine Tk ?_
  cases b with
  | none =>
   refine Em (v := .none) v3 ?_
   refine Ev.const_none ?_;refine Cmp.is_none ?_;refine ⟨_, rfl,?_⟩
   refine iteT rfl ?_
   refine iteT rfl ?_
   refine Xc fun uu uu => ?_;refine Ex.kpairS ?_;refine Et ?_;refine Ea ?_;refine En ?_;refine Ea ?_;refine En ?_;refine Eo ?_;refine ⟨_, _, rfl,?_⟩; refine Tn ?_;refine Xo ?_;refine Tn ?_;refine Xo ?_
   refine Lp.next (by assumption) ?_; exact ⟨hle1.get hw, hle1, v1, v2, by rw [e2]; rfl, by rw [e2]; rfl⟩
  | some b =>
   refine Em (v := MV b) v3 ?_
   refine Ev.const_none ?_;refine Cmp.is_none_ne (by intro q; cases q) ?_;refine ⟨_, rfl,?_⟩
   refine iteF (by decide) ?_
   refine Al.kor ?_;refine Tk ?_;refine En ?_
   refine Em v4 ?_
   refine Cmp.lt_tup (ordK o (pkey ls p).1 (pkey ls b).1 p b) ?_
   have eK: ltK o ((pkey ls p).1, p) ((pkey ls b).1, b) = ltK o (pkey ls p) (pkey ls b) := rfl
   rw [eK]
   refine ⟨_, rfl,?_⟩
   by_cases q: ltK o (pkey ls p) (pkey ls b) = true
   ·refine iteT q ?_
    refine iteT rfl ?_
    refine Xc fun uu uu => ?_;refine Ex.kpairS ?_;refine Et ?_;refine Ea ?_;refine En ?_;refine Ea ?_;refine En ?_;refine Eo ?_;refine ⟨_, _, rfl,?_⟩; refine Tn ?_;refine Xo ?_;refine Tn ?_;refine Xo ?_
    refine Lp.next (by assumption) ?_;refine ⟨hle1.get hw, hle1, v1, v2,?_,?_⟩ <;> rw [e2] <;> simp only [lessP, q, if_true] <;> rfl
   ·refine iteF q ?_
    refine Al.or_nil ?_
    refine iteF (by decide) ?_
    refine Xo ?_;refine Tn ?_;refine Xo ?_
    refine Lp.next (by assumption) ?_;refine ⟨hle1.get hw, hle1, v1, v2,?_,?_⟩ <;> rw [e2] <;> simp only [lessP, if_neg q] <;> assumption
 ·rintro ρ' H' uu ⟨hle, v1, v2, v3, v4⟩
  rw [List.length_map, List.take_length] at v3
  refine Tn ?_;refine Xc fun uu uu => ?_;refine Xr ?_
  refine Em v3 ?_
  refine Tq ?_
  exact h H' hle
end

section
theorem class_ns {w: World} {B: Heap} (D: Wd w B): ∃ mN, B.Ns 30 mN ∧ mN "__init__" = some (.ref 28) ∧ mN "__setattr__" = none ∧ mN "kind" = none ∧ mN "text" = none := by
 have h := D.inn 30 _ (rfl: (Internal.heapK w.params).lookup 30 = some _)
 refine ⟨_, ⟨_, _, _, h, rfl,?_, fun uu => rfl⟩,?_,?_,?_,?_⟩
 ·intro e he
  simp at he
  rcases he with rfl | rfl | rfl | rfl | rfl | rfl <;> exact ⟨_, _, rfl⟩
 all_goals rfl
noncomputable abbrev casCls: Obj := excClassObj "CasFail" "CasFail" 31 30 [.type "Exception"] [.type "Exception", .type "BaseException", .type "object"] true [] [] false none none (some (.ref 15)) none (some (.str "CasFail" 189)) (some (.str "CasFail" 197)) (some (.bool true)) "Exception.__new__"
theorem class_at {w: World} {B: Heap} (D: Wd w B): B.get? 31 = some casCls := D.inn 31 _ (rfl: (Internal.heapK w.params).lookup 31 = some _)
theorem getm_exc_init {M: World} {A: Around} {E: Value → Shared → Prop} {s: Shared} {pl: Sem Bool} {Q: Value × List Value → Shared → Prop} (h: Q (.builtin "Exception.__init__", []) { s with toks := s.toks + 1 }) :
  wpAny (model prg M) A (getMethod (.type "Exception") "__init__" pl) Q E s := by
 have X: Frag.In [] s.heap := fun uu uu e => by cases e
 have ht: typeOf (.type "Exception") = pure (.type "type") := by first | rfl | kernel_rfl
 have hstub: opaqueClassAbove (.type "Exception") = pure none := by unfold opaqueClassAbove; dsimp only; rw [show Manifest.isStub "Exception" = false by decide +kernel]; rfl
 have L0: Looks (model prg M) s.heap (typeOf (.type "Exception")) (.type "type") := Looks.of_pure ht
 have hg: findIn [] (.type "type") "__getattribute__" = some (some (.builtin "type.__getattribute__")) := type_tga
 have e: findCls [] (.type "Exception") (.type "type") "__init__" = some (.val (.builtin "Exception.__init__")) := by kernel_rfl
 have hh: handedIn (.builtin "Exception.__init__") = true := by decide +kernel
 unfold getMethod specialOf
 refine wpAny_bind (wpAny_bind (L0.here ((looks_findIn X hg).here ?_)))
 dsimp only
 rw [if_pos canon_tga]
 refine wpAny_bind (wpAny_mono (Q := fun v => Q (v, [])) (E := E) ?_ (fun uu uu z => wpAny_pure z) fun uu uu z => z)
 have LO: Looks (model prg M) s.heap (opaqueClassAbove (.type "Exception")) none := Looks.of_pure hstub
 refine cls_open X LO L0 hg (looks_hook X (r := none) (by rfl)) (by show subIn [] _ _ = _; rfl) e
  (wpAny_pure (by show wpAny _ _ (handedOut _) _ _ _; rw [handedOut_of hh]; exact wpAny_pure h))
theorem exc_init0 {w: World} {A: Around} {s: Shared} {E Q: Value → Shared → Prop} {e t0: Addr} {v: Value} (hC: s.heap.get? 31 = some casCls)
  (he: s.heap.get? e = some { cls := .ref 31, data := .fields #[.ref t0, .none, .none, .none, .bool false, .none] })
  (h: ∀ h', (∀ b o, b ≠ e → s.heap.get? b = some o → h'.get? b = some o) → h'.get? e = some { cls := .ref 31, data := .fields #[.ref s.heap.objs.size, .none, .none, .none, .bool false, .none] } → Q .none { s with heap := h' }) :
  wpAny (model prg w) A (call (.builtin "Exception.__init__") [.ref e, v]) Q E s := by
 have F := PySem.F.excBase_Exception
 obtain ⟨hp, g, d, t, os⟩ := s
 refine wpAny_call (codeAny_call_builtin F.init.plain F.initEntry (wpAny_check_init_sub F hC he rfl ?_))
 have he2 := Heap.get?_push_of_some (h := hp) { cls := .type "tuple", data := .seq [v].toArray } he
 unfold Builtin.«BaseException.__init__»
 dsimp only
 rw [if_neg (by simp)]
 unfold newTuple Builtin.BaseException.bexcPut
 refine wpAny_bind (wpAny_newObj_type (wpAny_bind (wpAny_bind (wpAny_field (vs := #[.ref t0, .none, .none, .none, .bool false, .none]) he2 rfl rfl (wpAny_bind (wpAny_setField he2 rfl (by simp) ?_))))) (by show (1:Nat) ≤ sizeLine; rw [sizeLine_eq]; decide))
 refine wpAny_letGo (wpAny_pure ?_)
 refine h _ (fun b o hb hbo => ?_) ?_
 ·exact (Heap.get?_update_other _ _ (Ne.symm hb)).trans (Heap.get?_push_of_some _ hbo)
 ·exact Heap.get?_update_self _ he2 rfl
section
open Builtin Builtin.ObjectAttr
variable {prog: Program} {w: World} {A: Around} {E: Value → Shared → Prop} {hp: Heap} {g: Array GenState} {d: Drawn} {t: Nat} {os: OsState}
variable {nm q: Str} {C N e: Addr} {bs bm: List Value} {sn: List Str} {sub: List Value} {ab: Bool} {col: Option Bool} {dd: Option Addr} {k0 k1 k2 k3 k5: Option Value} {B newId sa owner: String}
 {mN: Str → Option Value} {name: Str} {v: Value}
theorem set_first_entry {tk: Tok} {Q: Fin → Shared → Prop} {o: Obj} (SF: StoreFacts B bm sa owner) (hC: hp.get? C = some (excClassObj nm q C N bs bm true sn sub ab col dd k0 k1 k2 k3 k5 newId)) (hn: hp.Ns N mN) (hna: mN name = none)
  (hB: typeLookup (.type B) name = pure none) (he: hp.get? e = some o) (hc: o.cls = .ref C) {vs: Array Value} (hd: o.data = .fields vs) (hdn: o.dict = none)
  (h: ∀ h' t', (∀ b o, b ≠ e → hp.get? b = some o → h'.get? b = some o) → h'.get? e = some { o with dict := some hp.objs.size } → h'.Ns1 hp.objs.size (fun y => if y = name then some v else none) → Q (.done (.ret .none)) ⟨h', g, d, t', os⟩) :
  wpAny (model prog w) A (Builtin.«object.__setattr__» ⟨[.ref e, .str name tk, v], []⟩) Q E ⟨hp, g, d, t, os⟩ := by
 have hpass := SF.passes (.ref e)
 unfold Builtin.«object.__setattr__»
 repeat (first | rw [refuse_eq] | (rw [refuseLoop_ref, hpass]) | (with_reducible refine wpAny_loadPart_at he ?_; rw [hc]) | with_reducible refine wpAny_mroOf_exc hC ?_ | (with_reducible refine wpAny_typeLookup_exc hC hn SF.mro hB ?_; rw [hna]) | wp_step)
 rw [hdn, if_neg (by simp [typeHasDict])]
 split
 ·rename_i hcd; exact nsF hcd
 split
 ·rename_i c hcd; rw [hd] at hcd; cases hcd
 have hx1: (hp.push { cls := .type "dict", data := .dict #[] }).get? e = some o := Heap.get?_push_of_some _ he
 have hne: e ≠ hp.objs.size := Nat.ne_of_lt (Heap.lt_size he)
 refine wpAny_bind (wpAny_alloc' ?_)
 refine wpAny_bind (wpAny_update' hx1 ?_)
 refine wpAny_pure ?_
 have hgd: ((hp.push { cls := .type "dict", data := .dict #[] }).update e fun o => { cls := o.cls, dict := some hp.objs.size, data := o.data, slots := o.slots }).get? hp.objs.size
   = some { cls := .type "dict", data := .dict #[] } := (Heap.get?_update_ne _ _ _ _ hne.symm).trans (Heap.get?_push_at rfl rfl)
 have hnd: ((hp.push { cls := .type "dict", data := .dict #[] }).update e fun o => { cls := o.cls, dict := some hp.objs.size, data := o.data, slots := o.slots }).Ns hp.objs.size (fun uu => none) :=
  ⟨_, #[], _, hgd, rfl, fun e he => absurd he (by simp), fun uu => rfl⟩
 show wpAny _ _ (storeInDict hp.objs.size (.str name tk) name v) _ _ _
 unfold storeInDict newKeyGuard
 refine wpAny_bind (wpAny_pure (wpAny_bind (wpAny_nsSet1 (Heap.Ns1.of_empty hnd) fun h' hn' hs => ?_)))
 obtain ⟨oD, esD, epD, hoD, hdD, hcD⟩ := hn'.count (Within.cons name v Within.nil)
 refine wpAny_bind (wpAny_lookBehind hoD (by rw [hdD]; exact pastItsLine_dict (Nat.le_trans hcD (by rw [List.length_cons, List.length_nil, sizeLine_eq]; lia))) ?_)
 wp_walk
 refine h _ _ (fun b ob hb hbo => ?_) ?_ hn'
 ·exact (hs.2 b (Nat.ne_of_lt (Heap.lt_size hbo))).trans ((Heap.get?_update_ne _ _ _ _ hb).trans (Heap.get?_push_of_some _ hbo))
 ·refine (hs.2 e hne).trans (Heap.get?_update_self _ hx1 ?_)
  obtain ⟨oc, od, odt, osl⟩ := o
  cases hd; rfl
theorem set_first {Q: Unit → Shared → Prop} {o: Obj} (SF: StoreFacts B bm sa owner) (hC: hp.get? C = some (excClassObj nm q C N bs bm true sn sub ab col dd k0 k1 k2 k3 k5 newId)) (hn: hp.Ns N mN) (hns: mN "__setattr__" = none) (hna: mN name = none)
  (hB: typeLookup (.type B) name = pure none) (he: hp.get? e = some o) (hc: o.cls = .ref C) {vs: Array Value} (hd: o.data = .fields vs) (hdn: o.dict = none)
  (h: ∀ h' t', (∀ b o, b ≠ e → hp.get? b = some o → h'.get? b = some o) → h'.get? e = some { o with dict := some hp.objs.size } → h'.Ns1 hp.objs.size (fun y => if y = name then some v else none) → Q () ⟨h', g, d, t', os⟩) :
  wpAny (model prog w) A (setAttr (.ref e) name v) Q E ⟨hp, g, d, t, os⟩ := by
 have f3 := SF.slot.bind (.ref e)
 unfold setAttr callSpecial? specialOf
 repeat (any_goals (first | assumption | (with_reducible refine wpAny_loadPart_at he ?_; rw [hc]) | (with_reducible refine wpAny_typeLookup_exc hC hn SF.mro SF.slot.lookup ?_; rw [hns]) | wp_step))
 refine codeAny_call_builtin SF.slot.plain SF.entry (wpAny_check_sa SF hC he hc (set_first_entry SF hC hn hna hB he hc hd hdn fun h' t' a b c => ?_))
 repeat (any_goals (first | assumption | wp_step))
 exact h h' t' a b c
end
theorem str_len (a b: Str) (h: a.length + b.length ≤ 1000): a.length + b.length ≤ sizeLine := by rw [sizeLine]; lia
theorem init_raw {w: World} {B: Heap} (D: Wd w B) {A: Around} {s: Shared} {E Q: Value → Shared → Prop} {e t0: Addr} {k x: Str} {tk tx: Tok} (hroom: A.depth < recursionLimit) (hB: ∀ b o, B.get? b = some o → s.heap.get? b = some o)
  (he: s.heap.get? e = some { cls := .ref 31, data := .fields #[.ref t0, .none, .none, .none, .bool false, .none] }) (heB: B.get? e = none) (hl: k.length + x.length ≤ 500)
  (h: ∀ s', s' = { s with heap := s'.heap, toks := s'.toks } → (∀ b o, b ≠ e → s.heap.get? b = some o → s'.heap.get? b = some o) →
   (∃ oe t, s'.heap.get? e = some oe ∧ oe.cls = .ref 31 ∧ oe.data = .fields #[.ref t, .none, .none, .none, .bool false, .none]) → Q .none s') :
  wpAny (model prg w) A (call (.ref 28) [.ref e, .str k tk, .str x tx]) Q E s := by
 have hx: (Internal.heapK w.params).In s.heap := D.inn.keeps hB
 refine wpAny_call (call_cells_cls hroom (hx 28 _ rfl) rfl (D.nolimit.keeps hB) (codeRec_of hx (by rfl)) rfl (binds := [("self", .ref e), ("kind", .str k tk), ("text", .str x tx)]) (by rfl) rfl (kindsX (by rfl) _) (fun s₁ y hfc => ?_) rfl rfl rfl)
 have kp: Keep s.heap s₁.heap := y.toInCall.keep
 have hn := y.toInCall.ns
 obtain ⟨h₁, tk1, e1, uu⟩ := y.done
 have he1 := kp _ _ he
 have hLe: s.heap.objs.size ≠ e := Nat.ne_of_gt (Heap.lt_size he)
 obtain ⟨mg, mb, g1, g2, g3⟩ := D.glob
 obtain ⟨mN, hN, hN1, hN2, hN3, hN4⟩ := class_ns D
 clear y
 obtain ⟨m, hm, hn⟩: ∃ m, bindL _ _ _ = m ∧ s₁.heap.Ns s.heap.objs.size m := ⟨_, rfl, hn⟩
 have m1: m "self" = some (.ref e) := by rw [← hm]; rfl
 have m2: m "kind" = some (.str k tk) := by rw [← hm]; rfl
 have m3: m "text" = some (.str x tx) := by rw [← hm]; rfl
 refine wpAny_execs_cons (wpAny_Expr_any (methodCall_KW ?_ (by rfl)))
 refine Name_function_global rfl rfl (loadGlobal_builtin (mg := mg) (mb := mb) (v := .type "Exception") ((g1.keeps hB).keeps kp) (mg_none_of D.inn g1 rfl) ((g2.keeps hB).keeps kp) ((g3 _ (by decide)).trans PyProof.Rows.excClass_Exception.boot) ?_)
 refine getm_exc_init ?_
 refine Calls.callWith_builtin (by rfl) ?_
 refine Calls.evalArgs_plain ?_
 apply Calls.spliced_cons
 refine wpAny_Name (wpAny_loadName_local rfl rfl hn m1 ?_) (by decide)
 apply Calls.spliced_cons
 refine wpAny_BinOp (wpAny_BinOp (wpAny_Name (wpAny_loadName_local rfl rfl hn m2 ?_) (by decide)))
 refine wpAny_Constant_str ?_
 refine PyProof.Rows.add_str (fun t1 tk2 => ?_) (str_len _ _ (by simp only [show (Str.ofString ": ").length = 2 from rfl]; lia))
 refine wpAny_Name (wpAny_loadName_local rfl rfl hn m3 ?_) (by decide)
 refine PyProof.Rows.add_str (fun t2 tk3 => ?_) (str_len _ _ (by rw [strLen_append]; simp only [show (Str.ofString ": ").length = 2 from rfl]; lia))
 refine Calls.spliced_nil ?_
 have hC: s₁.heap.get? 31 = some casCls := kp _ _ (hB _ _ (class_at D))
 refine exc_init0 hC he1 fun h2 hk2 he2 => ?_
 have eC: (31: Addr) ≠ e := fun q => by rw [← q, class_at D] at heB; exact snF heB
 have eN: (30: Addr) ≠ e := fun q => by obtain ⟨uu, uu, uu, q2, uu⟩ := hN; rw [q, heB] at q2; exact nsF q2
 have hn2: h2.Ns s.heap.objs.size m := by
  obtain ⟨o, es, ep, ho, r⟩ := hn
  exact ⟨o, es, ep, hk2 _ _ hLe ho, r⟩
 have hC2 := hk2 _ _ eC hC
 have hN': h2.Ns 30 mN := by
  obtain ⟨o, es, ep, ho, r⟩ := hN
  exact ⟨o, es, ep, hk2 _ _ eN (kp _ _ (hB _ _ ho)), r⟩
 show wpAny _ _ (execs _ _) _ _ _
 refine wpAny_execs_cons (plainObj_wpAny_Assign_Attribute ?_ (by rfl))
 refine wpAny_Name (wpAny_loadName_local rfl rfl hn2 m2 ?_) (by decide)
 refine wpAny_Name (wpAny_loadName_local rfl rfl hn2 m1 ?_) (by decide)
 refine set_first PySem.F.store_Exception hC2 hN' hN2 hN3 (by rw [typeLookup_type, builtinLookup_eq_fast]; kernel_rfl) he2 rfl rfl rfl fun h3 t3 hk3 he3 hd3 => ?_
 show wpAny _ _ (execs _ _) _ _ _
 have hn3: h3.Ns s.heap.objs.size m := by
  obtain ⟨o, es, ep, ho, r⟩ := hn2
  exact ⟨o, es, ep, hk3 _ _ hLe ho, r⟩
 have hC3 := hk3 _ _ eC hC2
 have hN3': h3.Ns 30 mN := by
  obtain ⟨o, es, ep, ho, r⟩ := hN'
  exact ⟨o, es, ep, hk3 _ _ eN ho, r⟩
 have hde: h2.objs.size ≠ e := Nat.ne_of_gt (Heap.lt_size he2)
 refine wpAny_execs_cons (plainObj_wpAny_Assign_Attribute ?_ (by rfl))
 refine wpAny_Name (wpAny_loadName_local rfl rfl hn3 m3 ?_) (by decide)
 refine wpAny_Name (wpAny_loadName_local rfl rfl hn3 m1 ?_) (by decide)
 have I: h3.Inst e 31 (fun y => if y = "kind" then some (.str k tk) else none) := ⟨_, he3, rfl, (fun c q => nomatch q), .inr ⟨_, rfl, hde, hd3⟩⟩
 refine store_attr (ns := ["kind"]) PySem.F.store_Exception hC3 hN3' hN2 hN4 (by rw [typeLookup_type, builtinLookup_eq_fast]; kernel_rfl) (Ne.symm eC) I (fun h4 t4 I4 hk4 hs4 => ?_) ?_ (by rw [sizeLine_eq]; decide)
 ·show wpAny _ _ (execs _ _) _ _ _
  refine wpAny_execs_nil ?_
  obtain ⟨o4, e4, c4, d4, uu⟩ := hs4 _ he3
  refine h _ (by rw [e1]) (fun b o hb hbo => ?_) ⟨o4, _, e4, c4, d4⟩
  have b1 := kp b o hbo
  have b2 := hk2 b o hb b1
  refine hk4 b o hb (fun o0 dx q1 q2 => ?_) (hk3 b o hb b2)
  obtain rfl := Option.some.inj (he3.symm.trans q1); cases q2
  exact Nat.ne_of_lt (Heap.lt_size b2)
 ·exact Within.cons _ _ Within.nil
end
section
section
variable {prog: Program} {w: World} {A: Around} {E: Value → Shared → Prop} {h: Heap} {g: Array GenState} {d: Drawn} {t: Nat} {os: OsState}
variable {nm q: Str} {C N: Addr} {bs bm: List Value} {hdct: Bool} {sn: List Str} {sub: List Value} {ab: Bool} {col: Option Bool} {dd: Option Addr} {k0 k1 k2 k3 k5: Option Value} {B newId initId: String}
theorem made_at (F: ExcBaseFacts B newId initId bm) {mN: Str → Option Value} {rest: List Value} {fI: Addr} {oI: Obj} {Q: Value → Shared → Prop}
  (hC: h.get? C = some (excClassObj nm q C N bs bm hdct sn sub ab col dd k0 k1 k2 k3 k5 newId)) (hn: h.Ns N mN) (hi: mN "__init__" = some (.ref fI))
  (hfI: h.get? fI = some oI) (hfc: oI.cls = .type "function") (hrest: rest.length ≤ sizeLine)
  (hq: wpAny (model prog w) (A.under (.builtin "type.__call__" ⟨.ref C :: rest, []⟩)) (call (.ref fI) (.ref (h.objs.size + 1) :: rest)) (fun r s' => r = .none ∧ Q (.ref (h.objs.size + 1)) s') E
   ⟨(h.push { cls := .type "tuple", data := .seq rest.toArray }).push { cls := .ref C, data := .fields #[.ref h.objs.size, .none, .none, .none, .bool false, .none] }, g, d, t, os⟩) :
  wpAny (model prog w) A (call (.ref C) rest) Q E ⟨h, g, d, t, os⟩ := by
 have f1 := tc_lookup
 have f2 := tc_bind (.ref C)
 have hT: (⟨h, g, d, t, os⟩: Shared).TypeIs (.ref C) "type" := ⟨_, hC, rfl⟩
 refine wpAny_call (codeAny_of_tree ?_)
 show wpAny _ _ (callAny (.ref C) _) _ _ _
 repeat (any_goals (first | assumption | with_reducible refine wpAny_loadPart_at hC ?_ | wp_step))
 refine ⟨rfl,?_⟩
 refine codeAny_call_builtin_at (Code.quiet_builtin _ (by decide +kernel)) entry_typeCall (wpAny_check_type_call_sub hC ?_)
 repeat (first | with_reducible refine wpAny_loadPart_at hC ?_ | with_reducible refine wpAny_madeBy_exc hC ?_ | wp_step)
 refine codeAny_call_builtin_code (Code.quiet_builtin _ F.quiet) (wpAny_check_new_sub F hC ?_)
 refine codeAny_exc_new_sub F hC ?_ hrest
 show wpAny _ _ _ _ _ _
 have hC₁ := Heap.get?_push_of_some { cls := .ref C, data := .fields #[.ref h.objs.size, .none, .none, .none, .bool false, .none] } (Heap.get?_push_of_some { cls := .type "tuple", data := .seq rest.toArray } hC)
 have hfI₁ := Heap.get?_push_of_some { cls := .ref C, data := .fields #[.ref h.objs.size, .none, .none, .none, .bool false, .none] } (Heap.get?_push_of_some { cls := .type "tuple", data := .seq rest.toArray } hfI)
 have hn₁: ((h.push { cls := .type "tuple", data := .seq rest.toArray }).push { cls := .ref C, data := .fields #[.ref h.objs.size, .none, .none, .none, .bool false, .none] }).Ns N mN :=
  hn.elim fun o z => z.elim fun es z => z.elim fun ep z => ⟨o, es, ep, Heap.get?_push_of_some _ (Heap.get?_push_of_some _ z.1), z.2⟩
 have hget: ((h.push { cls := .type "tuple", data := .seq rest.toArray }).push { cls := .ref C, data := .fields #[.ref h.objs.size, .none, .none, .none, .bool false, .none] }).get? (h.objs.size + 1) = some { cls := .ref C, data := .fields #[.ref h.objs.size, .none, .none, .none, .bool false, .none] } := by heap_get
 have hcC: (Value.ref C :: bm).contains (.ref C) = true := by simp
 unfold isInstance
 repeat (first | with_reducible refine wpAny_loadPart_at hget ?_ | (show wpAny _ _ (isSubtype (.ref C) _) _ _ _; refine wpAny_isSubtype_exc hC₁ ?_; rw [hcC]) | wp_step)
 show wpAny _ _ (typeLookup (.ref C) _) _ _ _
 refine wpAny_typeLookup_exc hC₁ hn₁ F.mroIs F.init.lookup ?_
 rw [hi]
 refine wpAny_holding (wpAny_bind ?_)
 unfold bindSpecial
 refine wpAny_bind (wpAny_typeOf (T := "function") ⟨_, hfI₁, hfc⟩ ?_)
 rw [if_pos (by decide)]
 refine wpAny_pure (wpAny_bind (wpAny_mono hq (fun r s' hr => ?_) fun uu uu x => x))
 obtain ⟨rfl, hQ⟩ := hr
 wp_walk
 exact hQ
end
section
variable {M: Model} {A: Around} {E: Value → Shared → Prop} {env: Env}
variable {nm q: Str} {C N: Addr} {bs bm: List Value} {hdct: Bool} {sn: List Str} {sub: List Value} {ab: Bool} {col: Option Bool} {dd: Option Addr} {k0 k1 k2 k3 k5: Option Value} {newId: String}
theorem raise_own {s: Shared} {x: Sem Value} {Q: Flow → Shared → Prop} (hbase: bm.contains (.type "BaseException") = true) (hh: A.handled = none)
  (h: wpAny M A x (fun v s₁ => ∃ e oe, v = .ref e ∧ s₁.heap.get? C = some (excClassObj nm q C N bs bm hdct sn sub ab col dd k0 k1 k2 k3 k5 newId) ∧ s₁.heap.get? e = some oe ∧ oe.cls = .ref C ∧ (∃ t, oe.data = .fields #[.ref t, .none, .none, .none, .bool false, .none]) ∧ E (.ref e) s₁) E s) :
  wpAny M A (raiseStmt env (some x) none) Q E s := by
 have hcB: (Value.ref C :: bm).contains (.type "BaseException") = true := by rw [List.contains_cons, hbase, Bool.or_true]
 unfold raiseStmt
 refine wpAny_bind (wpAny_mono h (fun v s₁ h₁ => ?_) fun uu uu x => x)
 obtain ⟨e, ⟨oc, od, odt, osl⟩, rfl, hC, he, hc, ⟨vs, hd⟩, hE⟩ := h₁
 cases hc; cases hd
 obtain ⟨hp, g, d, tk, os⟩ := s₁
 repeat (first | with_reducible refine wpAny_loadPart_at he ?_ | with_reducible refine wpAny_loadPart_at hC ?_ | (with_reducible refine wpAny_isSubtype_exc hC ?_; rw [hcB]) | wp_step)
 exact wpAny_raiseNew_none hh hE
end
section
variable {w: World} {B: Heap} {env: Env} {d: Nat} {ρ: Rho} {H: MH} {fr: List Env}
theorem Ex.raise {Q: Post} {X: MH → Prop} {k x: Str} {k1 k2: Nat} {np p1 p2 cpos pos: Pos} (D: Wd w B) (h: X H) (hl: k.length + x.length ≤ 500) (hx: env.kindOf "CasFail" = some .globalImplicit := by rfl) :
  Ex w B env (d + 1) (.Raise (some (.Call (.Name "CasFail" np) [.Constant (.str k) k1 p1, .Constant (.str x) k2 p2] [] cpos)) none pos) ρ H Q X := by
 intro A fr s E Q' a hE S W K KX
 have F := PySem.F.excBase_Exception
 rw [arm_exec_Raise]
 refine wpAny_bind (wpAny_standAt (raise_own (C := 31) (nm := "CasFail") (q := "CasFail") (N := 30) (bs := [.type "Exception"]) (sn := []) (sub := []) (ab := false) (col := none) (dd := none) (hdct := true) (newId := "Exception.__new__") (bm := [.type "Exception", .type "BaseException", .type "object"]) (k0 := some (.ref 15)) (k1 := none) (k2 := some (.str "CasFail" 189)) (k3 := some (.str "CasFail" 197)) (k5 := some (.bool true)) F.hasBase a.handled ?_))
 refine wpAny_bind (wpAny_mono (wpAny_Call_ofName (global_raw D S.base W (val := .ref 31) rfl hx ?_)) (fun v s₃ h₃ => wpAny_bind (wpAny_standAt (wpAny_pure h₃))) fun uu uu x => x)
 unfold callWith
 refine wpAny_bind (wpAny_holding (wpAny_mono (Calls.evalArgs_plain (Q := fun a s₂ => a.pos = [.str k s.toks, .str x (s.toks + 1)] ∧ a.kw = [] ∧ s₂ = { s with toks := s.toks + 2 }) (Calls.spliced_cons (wpAny_Constant_str (k := k1) (pos := p1) (Calls.spliced_cons (wpAny_Constant_str (k := k2) (pos := p2) (Calls.spliced_nil ⟨rfl, rfl, rfl⟩)))))) (fun a2 s₂ h₂ => wpAny_bind (wpAny_standAt ?_)) fun uu uu x => x))
 obtain ⟨apos, akw⟩ := a2
 obtain ⟨e1, e2, rfl⟩ := h₂
 cases e1; cases e2
 have hC: s.heap.get? 31 = some casCls := S.base _ _ (class_at D)
 obtain ⟨mN, hN, hN1, uu⟩ := class_ns D
 have hN': s.heap.Ns 30 mN := by
  obtain ⟨o, es, ep, ho, r⟩ := hN
  exact ⟨o, es, ep, S.base _ _ ho, r⟩
 show wpAny _ _ (do let keep ← keeperOf (.ref 31); _) _ _ _
 refine wpAny_bind (wpAny_keeperOf_exc hC ?_)
 refine wpAny_bind (made_at (rest := [.str k s.toks, .str x (s.toks + 1)]) F hC hN' hN1 (D.inn.keeps S.base 28 _ rfl) rfl (by show (2:Nat) ≤ sizeLine; rw [sizeLine_eq]; decide) ?_)
 have hw: (Code.builtin "type.__call__" ⟨.ref 31 :: [.str k s.toks, .str x (s.toks + 1)], []⟩).weight = 1 := by kernel_rfl
 have kp: Keep s.heap ((s.heap.push { cls := .type "tuple", data := .seq [Value.str k s.toks, .str x (s.toks + 1)].toArray }).push { cls := .ref 31, data := .fields #[.ref s.heap.objs.size, .none, .none, .none, .bool false, .none] }) := fun b o e => Heap.get?_push_of_some _ (Heap.get?_push_of_some _ e)
 have hget: ((s.heap.push { cls := .type "tuple", data := .seq [Value.str k s.toks, .str x (s.toks + 1)].toArray }).push { cls := .ref 31, data := .fields #[.ref s.heap.objs.size, .none, .none, .none, .bool false, .none] }).get? (s.heap.objs.size + 1) = some { cls := .ref 31, data := .fields #[.ref s.heap.objs.size, .none, .none, .none, .bool false, .none] } := by heap_get
 revert kp hget
 refine genE_ ((s.heap.push { cls := .type "tuple", data := .seq [Value.str k s.toks, .str x (s.toks + 1)].toArray }).push { cls := .ref 31, data := .fields #[.ref s.heap.objs.size, .none, .none, .none, .bool false, .none] }) ?_
 intro h1 hh kp hget
 have hz: s.heap.objs.size + 2 = h1.objs.size := by rw [← hh, Heap.size_push, Heap.size_push]
 have S1: HS w B fr H { s with heap := h1, toks := s.toks + 2 } := S.keep kp (by lia)
 have g1: Gr NoX H s H { s with heap := h1, toks := s.toks + 2 } := Gr.keep kp (by lia)
 have eB: B.get? (s.heap.objs.size + 1) = none := S.bfresh (by lia)
 have eH: H.o (s.heap.objs.size + 1) = none := by
  cases q: H.o (s.heap.objs.size + 1) with
  | none => rfl
  | some mo => have := S.lt _ (show H.o (s.heap.objs.size + 1) ≠ none by rw [q]; simp); exact absurd this (Nat.not_lt.mpr (Nat.le_succ _))
 refine sized ?_
 refine init_raw D (by show A.depth + _ < _; rw [hw]; have := a.depth; simp only [recursionLimit]; lia) S1.base hget eB hl fun s3 q1 q2 q3 q4 => ⟨rfl,?_⟩
 refine wpAny_bind (wpAny_holding (wpAny_point (wpAny_pure ?_)))
 obtain ⟨oe, t, e1, e2, e3⟩ := q3
 have q4': h1.objs.size ≤ s3.heap.objs.size := q4
 obtain ⟨S3, g3, kt3⟩ := S1.priv (h' := s3.heap) (t := s3.toks) (fp := [s.heap.objs.size + 1]) (fun b hb => by rw [List.mem_singleton] at hb; rw [hb]; exact eH) (fun b hb => by rw [List.mem_singleton] at hb; rw [hb]; exact eB)
  (fun b hb o e => by rw [List.mem_singleton] at hb; subst hb; obtain rfl := Option.some.inj (hget.symm.trans e); exact ⟨_, rfl⟩) (fun b o hb e => q2 b o (fun q => hb (by rw [q]; exact .head _)) e) q4'
 have es: s3 = { s with heap := s3.heap, toks := s3.toks } := q1
 rw [← es] at S3 g3
 have g13: Gr NoX H s H s3 := Gr.fresh (fp := [s.heap.objs.size + 1]) g1 (g3.weaken fun c hc => .inr hc) (fun c hc => by rw [List.mem_singleton] at hc; rw [hc]; exact Nat.le_succ _)
 have W3: Vars B env ρ H s3.heap := W.gr S g13
 have nO: ¬ Own env (s.heap.objs.size + 1) := fun q => by have q2 := W.own_lt _ q; exact absurd q2 (Nat.not_lt.mpr (Nat.le_succ _))
 refine ⟨_, oe, rfl, S3.base _ _ (class_at D), e1, e2, ⟨t, e3⟩,?_⟩
 exact KX _ ρ H s3 g13.up S3 W3 ⟨eB, eH, Nat.le_succ _, nO, oe, _, e1, e2, e3, by simp, .inl rfl⟩ h
end
end
section
section
variable (w: World) (B: Heap)
noncomputable def Fly (lo: Nat) (e: Addr) (H: MH) (h: Heap): Prop := ∀ env: Env, (∀ a, Own env a → a < lo) → Rz w B env lo e H h
noncomputable def CalX (d: Nat) (f: Value) (xs: List V) (H: MH) (Q: V → MH → Prop) (X: MH → Prop): Prop :=
 ∀ (s: Shared) (vs: List Value), VRs s.heap vs xs → ∀ (A: Around) (fr: List Env) (E Q': Value → Shared → Prop), AOk d fr A → HS w B fr H s →
  (∀ val v H' s', Gr NoX H s H' s' → HS w B fr H' s' → VR s'.heap val v → Q v H' → Q' val s') →
  (∀ e H' s', Gr NoX H s H' s' → HS w B fr H' s' → Fly w B s.heap.objs.size e H' s'.heap → X H' → E (.ref e) s') →
  wpAny (model prg w) A (call f vs) Q' E s
noncomputable def EvX (env: Env) (d: Nat) (e: Expr) (ρ: Rho) (H: MH) (Q: V → MH → Prop) (X: MH → Prop): Prop :=
 ∀ (A: Around) (fr: List Env) (s: Shared) (E Q': Value → Shared → Prop), AOk d fr A → HS w B fr H s → Vars B env ρ H s.heap →
  (∀ val v H' s', Gr NoX H s H' s' → HS w B fr H' s' → VR s'.heap val v → Q v H' → Q' val s') →
  (∀ e H' s', Gr NoX H s H' s' → HS w B fr H' s' → Rz w B env s.heap.objs.size e H' s'.heap → X H' → E (.ref e) s') →
  wpAny (model prg w) A (eval e env) Q' E s
end
section
variable {w: World} {B: Heap} {env: Env} {d: Nat} {ρ: Rho} {H: MH} {Q: V → MH → Prop} {X: MH → Prop}
theorem Rz.other {lo: Nat} {e: Addr} {h: Heap} {env': Env} (x: Rz w B env lo e H h) (ho: ∀ a, Own env' a → a < lo): Rz w B env' lo e H h := by
 refine ⟨x.new, x.noH, x.low, fun q => Nat.not_lt.mpr x.low (ho _ q),?_⟩
 obtain ⟨oe, vs, h1, h2, h3, h4, h5⟩ := x.there
 refine ⟨oe, vs, h1, h2, h3, h4, h5.imp id ?_⟩
 rintro ⟨T, oT, ts, a1, a2, a0, a3, a4, a5, a6, a7, a8, a9⟩
 exact ⟨T, oT, ts, a1, a2, a0, a3, a4, a5, a6, a7, a8, fun q => Nat.not_lt.mpr a6 (ho _ q)⟩
theorem HS.tail {fr: List Env} {s: Shared} (S: HS w B (env :: fr) H s): HS w B fr H s :=
 ⟨S.base, S.sep, S.rep, S.frs.2.2, fun env he => S.frsep env (.tail _ he), fun env he => S.frc env (.tail _ he), S.lt, S.low⟩
theorem CalX.enter {fa: Addr} {name qual: Str} {params: Arguments} {body: List Stmt} {scope: Scope} {dV kV doc pm cdv ct oc: Value} {an od: Option Addr} {osl: Array (Option Value)} {names: List Str} {xs: List V} (D: Wd w B)
  (ho: (Internal.heapK w.params).lookup fa = some ⟨oc, od, .func (fnOf name qual params body scope dV kV doc pm an cdv ct), osl⟩)
  (hcd: codeIn (Internal.heapK w.params) cdv qual = true)
  (hb: ∀ vals: List Value, vals.length = names.length → bindArgs (fnOf name qual params body scope dV kV doc pm an cdv ct) ⟨vals, []⟩ = pure (names.zip vals))
  (hn: names.Nodup) (hl: xs.length = names.length)
  (hkn: (names.all fun n => scope.names.lookup n == some .local || scope.names.lookup n == some .cell) = true)
  (h: ∀ L, Exs w B (envOfC qual scope L fa cdv) d body (fun x => (names.zip xs).lookup x) H (fun f uu H' => Q (retV f) H') X)
  (hco: scope.isCoroutine = false := by rfl) (hgen: scope.isGenerator = false := by rfl) (hk: scope.kind = .function := by rfl): CalX w B (d + 1) (.ref fa) xs H Q X := by
 intro s vs r A fr E Q' a S K KX
 refine enter_raw D ho hcd hb hn hl hkn h hco hgen hk r a.toAOk0 S K fun env e ρ' H' s' he own g S' W' rz q => ?_
 obtain ⟨L, rfl⟩ := he
 unfold leaving
 have hfr: (A.deeper (envOfC qual scope L fa cdv)).frames = some (envOfC qual scope L fa cdv :: fr) := (a.toAOk0.deeper _ ⟨hgen, hco, rfl, rfl⟩).frames
 refine wpAny_bind (noted S' W' hfr rz g.ext.size fun s2 fp2 hf2 g2 S2 W2 R2 uu => ?_)
 refine flight S2 W2 R2 fun s3 fp3 hf3 g3 S3 W3 R3 => ?_
 refine KX e H' s3 (Gr.fresh (fp := fp2 ++ fp3) g ((g2.weaken fun b hb => .inr (List.mem_append_left _ hb)).trans (g3.weaken fun b hb => .inr (List.mem_append_right _ hb))) fun b hb => ?_) S3.tail (fun env' ho' => R3.other ho') q
 rcases List.mem_append.mp hb with hb | hb
 ·exact hf2 b hb
 ·exact hf3 b hb
theorem EvX.call {f: Str} {np pos: Pos} {fa: Addr} {fo: Obj} {fd: FuncData} {e: Expr} {es: List Expr} (D: Wd w B) (hf: nsIn (Internal.heapK w.params) mainGlobals f = some (some (.ref fa)))
  (ho: (Internal.heapK w.params).lookup fa = some fo) (hd: fo.data = .func fd)
  (h: Evs w B env d (e :: es) ρ H fun xs H1 => CalX w B d (.ref fa) xs H1 Q X)
  (hx: env.kindOf f = some .globalImplicit := by rfl) (hp: (e :: es).all noStar = true := by rfl) (hd1: (f == ("__debug__": Str)) = false := by decide) :
  EvX w B env d (.Call (.Name f np) (e :: es) [] pos) ρ H Q X := by
 intro A fr s E Q' a S W K KX
 refine wpAny_Call_ofName (global_raw D S.base W hf hx (callWith_def hd (Evs.run hp h a S W fun vals vs H' s' g S' r q => ⟨(D.inn.keeps S'.base) _ _ ho,?_⟩) (starEach_plain (by simpa using (Bool.and_eq_true_iff.mp hp).1))) hd1)
 refine q s' vals r A fr E Q' a S' (fun v z H3 s3 g3 S3 r3 q3 => K v z H3 s3 (g.trans g3) S3 r3 q3) (fun e H3 s3 g3 S3 fl q3 => KX e H3 s3 (g.trans g3) S3 ?_ q3)
 exact (fl env fun a ha => Nat.lt_of_lt_of_le (W.own_lt a ha) g.ext.size).le g.ext.size
theorem Ex.try_ret {Qp: Post} {Xp: MH → Prop} {c: Expr} {p1 p2 p3 p4 p5 pos: Pos} {k: Nat} (D: Wd w B) (h: EvX w B env d c ρ H (fun v H' => Qp (.ret v) ρ H') (fun H' => Qp (.ret .none) ρ H'))
  (hx: env.kindOf "CasFail" = some .globalImplicit := by rfl) :
  Ex w B env d (.Try [.Return (some c) p1] [.ExceptHandler (some (.Name "CasFail" p2)) none [.Return (some (.Constant .none k p3)) p4] p5] [] [] pos) ρ H Qp Xp := by
 intro A fr s E Q' a hE S W K KX
 obtain ⟨outer, rfl⟩ := hE
 refine wpAny_Try_except (wpAny_execs_cons (wpAny_Return_some (h A _ s _ _ a S W (fun v z H1 s1 g1 S1 r1 q1 => ?_) fun e H1 s1 g1 S1 rz q1 => ?_)))
 ·exact K _ _ _ _ _ g1.up S1 (W.gr S g1) (.ret r1) q1
 ·have W1 := W.gr S g1
  refine noted S1 W1 a.frames rz g1.ext.size fun s2 fp2 hf2 g2 S2 W2 R2 uu => ?_
  refine flight S2 W2 R2 fun s3 fp3 hf3 g3 S3 W3 R3 => ?_
  refine wpAny_handleBy_cons (codeAny_handlers_test ?_) (by intro q; cases q)
  refine global_raw D S3.base W3 (val := .ref 31) rfl hx ?_
  obtain ⟨oe, vs, e1, e2, uu⟩ := R3.there
  refine wpAny_excMatches_sub_self (h := s3.heap) (g := s3.gens) (d := s3.drawn) (t := s3.toks) (os := s3.os) (S3.base _ _ (class_at D)) e1 e2 PySem.F.excBase_Exception.hasBase ?_
  refine codeAny_handlers_suite ?_
  refine flight S3 W3 R3 fun s4 fp4 hf4 g4 S4 W4 R4 => ?_
  refine wpAny_execs_cons (wpAny_Return_some (wpAny_Constant_none ?_))
  refine K _ (.ret .none) ρ H1 s4 (Gr.fresh (fp := fp2 ++ (fp3 ++ fp4)) g1.up ((g2.weaken fun b hb => .inr (List.mem_append_left _ hb)).trans ((g3.weaken fun b hb => .inr (List.mem_append_right _ (List.mem_append_left _ hb))).trans (g4.weaken fun b hb => .inr (List.mem_append_right _ (List.mem_append_right _ hb))))) fun b hb => ?_) S4 W4 (.ret .none) q1
  rcases List.mem_append.mp hb with hb | hb
  ·exact hf2 b hb
  ·rcases List.mem_append.mp hb with hb | hb
   ·exact hf3 b hb
   ·exact hf4 b hb
end
end
section
theorem turn2_0 (elt t1 i1 t2 i2: Expr) (scope: Scope) (pos: Pos) (it acc: Value) (env: Env) :
  compTurn (.ListComp elt [⟨t1, i1, [], 0⟩, ⟨t2, i2, [], 0⟩] scope pos) 0 it acc env = (do
   standAt i1.pos
   match ← pyNext it with
   | none => pure (.done .next)
   | some v =>
    letOwnedTupleGo t1 it v
    assign t1 env v
    let x ← eval i2 env
    standAt i2.pos
    let x ← foldedSetIterable i2 env x
    let _ ← runOwn (.compStart (.ListComp elt [⟨t1, i1, [], 0⟩, ⟨t2, i2, [], 0⟩] scope pos) 1 (← holding [x] (pyIter x)) acc env) env
    again (.compLoop (.ListComp elt [⟨t1, i1, [], 0⟩, ⟨t2, i2, [], 0⟩] scope pos) 0 it acc env)) := by rfl
theorem turn2_1 (elt t1 i1 t2 i2: Expr) (scope: Scope) (pos: Pos) (it acc: Value) (env: Env) :
  compTurn (.ListComp elt [⟨t1, i1, [], 0⟩, ⟨t2, i2, [], 0⟩] scope pos) 1 it acc env = (do
   standAt i2.pos
   match ← pyNext it with
   | none => pure (.done .next)
   | some v =>
    letOwnedTupleGo t2 it v
    assign t2 env v
    (do let _ ← call (.builtin "list.append") [acc, ← eval elt env])
    again (.compLoop (.ListComp elt [⟨t1, i1, [], 0⟩, ⟨t2, i2, [], 0⟩] scope pos) 1 it acc env)) := by rfl
section
variable (prog: Program) (w: World) (A: Around) (R: Result → Shared → Prop) (env: Env) (I: Nat → Shared → Prop) (n: Nat)
@[reducible] noncomputable def M3 (acc: Value) (elt: Expr): Unit → Shared → Prop := fun uu s₂ => wpAny (model prog w) A (eval elt env) (L5 prog w A R env I n acc) (LN prog w A R env) s₂
@[reducible] noncomputable def LR: Result → Shared → Prop := fun r s₅ => match r with | .ok _ => ∃ m, m < n ∧ I m s₅ | .error _ => False
@[reducible] noncomputable def N5 (acc: Value) (node: Expr): Value → Shared → Prop := fun it2 s₄ => codeAny (model prog w) A (.compStart node 1 it2 acc env) (LR I n) s₄
@[reducible] noncomputable def N4 (acc: Value) (node: Expr): Value → Shared → Prop := fun x s₃ => wpAny (model prog w) A (pyIter x) (N5 prog w A env I n acc node) (LN prog w A R env) s₃
@[reducible] noncomputable def N3 (acc: Value) (node i2: Expr): Unit → Shared → Prop := fun uu s₂ => wpAny (model prog w) A (eval i2 env) (N4 prog w A R env I n acc node) (LN prog w A R env) s₂
end
section
variable {prog: Program} {w: World} {A: Around} {E: Value → Shared → Prop} {R: Result → Shared → Prop} {s: Shared} {elt t1 i1 t2 i2: Expr} {scope: Scope} {pos: Pos} {it acc: Value} {env: Env}
theorem start2_1 (h0: codeAny (model prog w) A (.compLoop (.ListComp elt [⟨t1, i1, [], 0⟩, ⟨t2, i2, [], 0⟩] scope pos) 1 it acc env) R s)
  (h: wpAny (model prog w) A (pyIter it) (fun it' s' => codeAny (model prog w) A (.compLoop (.ListComp elt [⟨t1, i1, [], 0⟩, ⟨t2, i2, [], 0⟩] scope pos) 1 it' acc env) R s')
   (notedBy (model prog w) A env fun x s' => R (.error x) s') s) :
  codeAny (model prog w) A (.compStart (.ListComp elt [⟨t1, i1, [], 0⟩, ⟨t2, i2, [], 0⟩] scope pos) 1 it acc env) R s := by
 refine codeAny_of_tree ?_
 show wpAny _ _ ((compStart (.ListComp elt [⟨t1, i1, [], 0⟩, ⟨t2, i2, [], 0⟩] scope pos) 1 it acc env).onRaise (fun x => do noteFrame x env; standAt theWindowsPlace)) _ _ s
 refine wpAny_notedAt ?_
 unfold compStart
 show wpAny _ _ (ask >>= _) _ _ s
 refine wpAny_bind (wpAny_askSetting (wpAny_ite ?_))
 split
 ·first
   | exact wpAny_bind (wpAny_pure (wpAny_pure (And.intro rfl h0)))
   | exact wpAny_pure (And.intro rfl h0)
 ·first
   | exact wpAny_bind (wpAny_rule (wpAny_bind (wpAny_standAt (wpAny_bind (wpAny_mono h (fun it' s' h' => wpAny_pure (And.intro rfl h')) fun uu uu x => x)))))
   | (refine wpAny_bind (wpAny_rule ?_); show wpAny _ _ (standAt i2.pos >>= _) _ _ s; exact wpAny_bind (wpAny_standAt (wpAny_bind (wpAny_mono h (fun it' s' h' => wpAny_pure (And.intro rfl h')) fun uu uu x => x))))
theorem loop2_1 (I: Nat → Shared → Prop)
  (turn: ∀ n s, I n s → wpAny (model prog w) A (pyNext it) (L1 prog w A R env (M3 prog w A R env I n acc elt) t2 it) (LN prog w A R env) s)
  (n: Nat) (h: I n s): codeAny (model prog w) A (.compLoop (.ListComp elt [⟨t1, i1, [], 0⟩, ⟨t2, i2, [], 0⟩] scope pos) 1 it acc env) R s := by
 refine codeAny_loop rfl I (fun n s hI => ?_) n h
 show wpAny _ A ((compTurn (.ListComp elt [⟨t1, i1, [], 0⟩, ⟨t2, i2, [], 0⟩] scope pos) 1 it acc env).onRaise (fun x => do noteFrame x env; theTreesLotGoes x)) _ _ s
 refine wpAny_noted ?_
 rw [turn2_1]
 refine wpAny_bind (wpAny_standAt (wpAny_bind (wpAny_mono (turn n s hI) (fun r s₁ h₁ => ?_) fun uu uu h' => h')))
 cases r with
 | none => exact wpAny_pure h₁
 | some v =>
  refine wpAny_bind (wpAny_mono h₁ (fun uu s₁' h₁' => ?_) fun uu uu h' => h')
  refine wpAny_bind (wpAny_mono h₁' (fun uu s₂ h₂ => ?_) fun uu uu h' => h')
  exact wpAny_bind (wpAny_bind (wpAny_mono h₂ (fun x s₄ h₄ => wpAny_bind (wpAny_mono h₄ (fun uu s₅ h₅ => wpAny_pure (wpAny_pure ⟨rfl, h₅⟩)) fun uu uu h' => h')) fun uu uu h' => h'))
theorem loop2_0 (I: Nat → Shared → Prop) (hs: ∀ x, foldedSetIterable i2 env x = pure x)
  (turn: ∀ n s, I n s → wpAny (model prog w) A (pyNext it) (L1 prog w A R env (N3 prog w A R env I n acc (.ListComp elt [⟨t1, i1, [], 0⟩, ⟨t2, i2, [], 0⟩] scope pos) i2) t1 it) (LN prog w A R env) s)
  (n: Nat) (h: I n s): codeAny (model prog w) A (.compLoop (.ListComp elt [⟨t1, i1, [], 0⟩, ⟨t2, i2, [], 0⟩] scope pos) 0 it acc env) R s := by
 refine codeAny_loop rfl I (fun n s hI => ?_) n h
 show wpAny _ A ((compTurn (.ListComp elt [⟨t1, i1, [], 0⟩, ⟨t2, i2, [], 0⟩] scope pos) 0 it acc env).onRaise (fun x => do noteFrame x env; theTreesLotGoes x)) _ _ s
 refine wpAny_noted ?_
 rw [turn2_0]
 refine wpAny_bind (wpAny_standAt (wpAny_bind (wpAny_mono (turn n s hI) (fun r s₁ h₁ => ?_) fun uu uu h' => h')))
 cases r with
 | none => exact wpAny_pure h₁
 | some v =>
  refine wpAny_bind (wpAny_mono h₁ (fun uu s₁' h₁' => ?_) fun uu uu h' => h')
  refine wpAny_bind (wpAny_mono h₁' (fun uu s₂ h₂ => ?_) fun uu uu h' => h')
  refine wpAny_bind (wpAny_mono h₂ (fun x s₃ h₃ => ?_) fun uu uu h' => h')
  refine wpAny_bind (wpAny_standAt (wpAny_bind (wpAny_of_eq (hs x) (wpAny_bind (wpAny_holding (wpAny_mono h₃ (fun it2 s₄ h₄ => ?_) fun uu uu h' => h'))))))
  refine wpAny_bind (wpAny_runOwn (codeAny_mono h₄ fun r s₅ h₅ => ?_))
  cases r with
  | error e => exact h₅.elim
  | ok f => exact wpAny_pure ⟨rfl, h₅⟩
end
theorem Vars.weak {B: Heap} {env: Env} {ρ ρ': Rho} {H: MH} {h: Heap} (W: Vars B env ρ' H h) (hs: ∀ x v, ρ x = some v → ρ' x = some v): Vars B env ρ H h := by
 refine ⟨W.hkind, W.hglob, W.hblt,?_, W.cells, W.apart, W.own⟩
 obtain ⟨m, hm, hv⟩ := W.ns
 exact ⟨m, hm, fun x v e => hv x v (hs x v e)⟩
structure CS (w: World) (B: Heap) (fr: List Env) (cenv: Env) (D: Addr) (ρ: Rho) (ys: List V) (H: MH) (s: Shared): Prop where
 hs: HS w B fr H s
 vars: Vars B cenv ρ H s.heap
 plain: ∃ vals: Array Value, s.heap.PlainList D vals ∧ VRs s.heap vals.toList ys
 oD: H.o D = none
section
variable {w: World} {B: Heap} {cenv: Env} {d: Nat} {ρ: Rho} {H H': MH} {fr: List Env} {D: Addr} {s s': Shared} {ys: List V}
theorem plainCls {h: Heap} {D: Addr} {v: Array Value} {o: Obj} (x: h.PlainList D v) (e': h.get? D = some o): o.cls ≠ .type "frame" := by
 obtain ⟨n, e⟩ := x
 obtain rfl := Option.some.inj (e.symm.trans e'); exact fun q => nomatch (Value.type.inj q)
theorem CS.step {Y: Addr → Prop} {ρ': Rho} (c: CS w B fr cenv D ρ ys H s) (g: Gr Y H s H' s') (S': HS w B fr H' s') (W': Vars B cenv ρ' H' s'.heap) (kt: TupKeep s.heap s'.heap) (hD: ¬ Y D): CS w B fr cenv D ρ' ys H' s' := by
 obtain ⟨vals, pl, rs⟩ := c.plain
 obtain ⟨n, e⟩ := id pl
 exact ⟨S', W', ⟨vals, ⟨n, g.ext.keep D _ e c.oD hD (plainCls pl e)⟩, VRs.mono' kt rs⟩, g.ext.none' e c.oD⟩
theorem CS.weak {ρ': Rho} (c: CS w B fr cenv D ρ' ys H s) (h: ∀ x v, ρ x = some v → ρ' x = some v): CS w B fr cenv D ρ ys H s := ⟨c.hs, c.vars.weak h, c.plain, c.oD⟩
inductive ILI (w: World) (B: Heap) (fr: List Env) (cenv: Env) (D: Addr) (ρ: Rho) (H: MH) (s: Shared) (fp: List Addr) (St: Nat → Heap → Prop) (C: MH → Prop) (Inv: Nat → List V → MH → Prop) (n k: Nat) (s': Shared): Prop
 | mk (i: Nat) (ys': List V) (H': MH) (hk: k = n + 1 - i) (hi: i ≤ n) (c2: CS w B fr cenv D ρ ys' H' s') (g2: Gr (fun c => c = cenv.locals ∨ c = D ∨ c ∈ fp) H s H' s') (kt2: TupKeep s.heap s'.heap) (st2: St i s'.heap) (hc2: C H') (inv: Inv i ys' H')
theorem inner_loop {elt t1 i1 t2 i2: Expr} {scope: Scope} {pos: Pos} {xs: List V} {C: MH → Prop} {fp: List Addr} {St: Nat → Heap → Prop} {I: Addr} {A: Around} {R: Result → Shared → Prop} (Inv: Nat → List V → MH → Prop) (a: AOk d fr A)
  (wk: Wk w B d t2 I xs C fp St) (st: St 0 s.heap) (cs: CS w B fr cenv D ρ ys H s) (hfB: ∀ b ∈ fp, B.get? b = none) (hfO: ∀ b ∈ fp, ¬ Own cenv b) (hfD: D ∉ fp) (hDO: ¬ Own cenv D) (bD: B.get? D = none) (hDfr: ∀ env ∈ fr, env.frame ≠ some D)
  (hc: C H) (h0: Inv 0 ys H)
  (turn: ∀ i y ys H', xs[i]? = some y → C H' → Inv i ys H' → ys.length ≤ 1000000 ∧ ∃ ρ2, AsgL w B cenv d t2 y ρ ρ2 ∧ (∀ x v, ρ x = some v → ρ2 x = some v) ∧ Ev w B cenv d elt ρ2 H' (fun z H3 => C H3 ∧ Inv (i + 1) (ys ++ [z]) H3))
  (K: ∀ ys' H' s', CS w B fr cenv D ρ ys' H' s' → Gr (fun c => c = cenv.locals ∨ c = D ∨ c ∈ fp) H s H' s' → TupKeep s.heap s'.heap → C H' → Inv xs.length ys' H' → R (.ok .next) s') :
  codeAny (model prg w) A (.compLoop (.ListComp elt [⟨t1, i1, [], 0⟩, ⟨t2, i2, [], 0⟩] scope pos) 1 (.ref I) (.ref D) cenv) R s := by
 have hLD: ¬ D = cenv.locals := fun q => hDO (.inl q)
 refine loop2_1 (ILI w B fr cenv D ρ H s fp St C Inv xs.length) ?_ (xs.length + 1)
  ⟨0, ys, H, rfl, Nat.zero_le _, cs, Gr.refl .., (fun uu uu e uu uu => e), st, hc, h0⟩
 rintro k s2 ⟨i, ys2, H2, rfl, hi, c2, g2, kt2, st2, hc2, inv⟩
 cases hx: xs[i]? with
 | none =>
  have hil: i = xs.length := Nat.le_antisymm hi (by simpa using hx)
  subst hil
  refine wk.done A fr H2 s2 _ _ a c2.hs hc2 (wk.noH c2.hs st2) hfB st2 fun s3 g3 S3 => ?_
  have kt := wk.tk c2.hs st2 g3
  have W3 := c2.vars.gx g3 (fun b hb q => hfO b q hb) kt
  exact K ys2 H2 s3 (c2.step g3 S3 W3 kt hfD) (g2.trans (g3.weaken fun c hc => .inr (.inr hc))) (fun b o e c q => kt b o (kt2 b o e c q) c q) hc2 inv
 | some x =>
  have hil: i < xs.length := (List.getElem?_eq_some_iff.mp hx).1
  refine wk.item i x A fr H2 s2 _ _ a c2.hs hc2 (wk.noH c2.hs st2) hfB st2 hx fun val s3 go => go _ _ fun s4 g4 S4 st4 r4 => ?_
  obtain ⟨hlen, ρ5, hasg, hsub, hbody⟩ := turn i x ys2 H2 hx hc2 inv
  have kt4 := wk.tk c2.hs st2 g4
  have W4 := c2.vars.gx g4 (fun b hb q => hfO b q hb) kt4
  have c4 := c2.step g4 S4 W4 kt4 hfD
  refine hasg A fr H2 s4 val _ _ a S4 W4 r4 fun s5 g5 S5 W5 => ?_
  have kt5 := S4.tupKeep g5.ext (fun a o ha => ownSeq W4 a o (.inl ha))
  have c5 := c4.step g5 S5 W5 kt5 hLD
  have st5 := wk.own S4 st4 g5 kt5 (fun b hb q => hfO b hb (.inl q)) hc2 hc2
  refine hbody A fr s5 _ _ a S5 W5 fun v y H7 s7 g7 S7 r7 q7 => ?_
  have kt7 := S5.tupKeep g7.ext fun uu uu q => q.elim
  have c7 := c5.step g7 S7 (W5.gr S5 g7) kt7 id
  have st7 := wk.own S5 st5 g7 kt7 (fun uu uu q => q) hc2 q7.1
  obtain ⟨vals, pl7, rs7⟩ := c7.plain
  refine sized (wpAny_list_append_plain pl7 (fun h8 pl8 sb8 hz8 => ?_) (by rw [← Array.length_toList, rs7.length, sizeLine]; lia))
  obtain ⟨S8, g8, kt8⟩ := adoptStep (t := s7.toks) S7 c7.oD bD (by obtain ⟨n, e⟩ := pl7; exact ⟨_, e, .inl rfl⟩) (by obtain ⟨n, e⟩ := pl8; exact ⟨_, e, fun vs q => nomatch q⟩) sb8 hDfr
  have W8 := c7.vars.gx g8 (fun b hb q => hDO (by rw [← show b = D from q]; exact hb)) kt8
  refine ⟨xs.length + 1 - (i + 1), by lia, i + 1, ys2 ++ [y], H7, rfl, hil, ⟨S8, W8.weak hsub, ⟨_, pl8,?_⟩, c7.oD⟩,?_,?_,?_, q7.1, q7.2⟩
  ·rw [Array.toList_push]
   exact VRs.mono' kt8 (rs7.append (.cons r7 .nil))
  ·exact (((g2.trans (g4.weaken fun c hc => .inr (.inr hc))).trans (g5.weaken fun c hc => .inl hc)).trans (g7.up)).trans (g8.weaken fun c hc => .inr (.inl hc))
  ·exact fun b o e c q => kt8 b o (kt7 b o (kt5 b o (kt4 b o (kt2 b o e c q) c q) c q) c q) c q
  ·exact wk.own S7 st7 g8 kt8 (fun b hb q => hfD (by rw [← show b = D from q]; exact hb)) q7.1 q7.1
end
end
section
section
variable {w: World} {B: Heap} {env: Env} {d: Nat} {ρ: Rho} {H: MH} {fr: List Env}
inductive Comp2 (w: World) (B: Heap) (cenv: Env) (d: Nat) (elt t2: Expr) (ρ1: Rho) (ys: List V) (C: MH → Prop) (fin: List V → MH → Prop) (xs2: List V) (C2: MH → Prop) (H2: MH): Prop
 | mk (Inv2: Nat → List V → MH → Prop) (q1: C2 H2) (q2: Inv2 0 ys H2)
  (q3: ∀ j y ys' H3, xs2[j]? = some y → C2 H3 → Inv2 j ys' H3 → ys'.length ≤ 1000000 ∧ ∃ ρ2, AsgL w B cenv d t2 y ρ1 ρ2 ∧ (∀ x v, ρ1 x = some v → ρ2 x = some v) ∧ Ev w B cenv d elt ρ2 H3 (fun z H4 => C2 H4 ∧ Inv2 (j + 1) (ys' ++ [z]) H4))
  (q4: ∀ ys' H3, C2 H3 → Inv2 xs2.length ys' H3 → C H3 ∧ fin ys' H3)
inductive TnC (w: World) (B: Heap) (cenv: Env) (d: Nat) (elt t1 i2 t2: Expr) (cl: List (Str × Addr)) (ρ: Rho) (C: MH → Prop) (I: List V → MH → Prop) (x: V) (ys: List V) (H': MH): Prop
 | mk (ρ1: Rho) (asg: AsgL w B cenv d t1 x (inner cl ρ) ρ1) (sub: ∀ y, (cl.lookup y).isSome = true → ρ1 y = ρ y) (its: Its w B cenv d i2 t2 ρ1 H' (Comp2 w B cenv d elt t2 ρ1 ys C I))
inductive CI2 (w: World) (B: Heap) (fr: List Env) (H: MH) (s₁: Shared) (cenv: Env) (ρ0: Rho) (D C': Addr) (fp: List Addr) (St: Nat → Heap → Prop) (C: MH → Prop) (Inv: Nat → List V → MH → Prop) (n k: Nat) (s': Shared): Prop
 | mk (i: Nat) (ys: List V) (H': MH) (hk: k = n + 1 - i) (hi: i ≤ n) (c2: CS w B fr cenv D ρ0 ys H' s') (g2: Gr (fun c => False ∨ c ∈ C' :: D :: fp) H s₁ H' s') (st2: St i s'.heap) (hc2: C H') (inv: Inv i ys H') (oC2: H'.o C' = none)
theorem comp_core2 {elt t1 i1 t2 i2: Expr} {scope: Scope} {pos: Pos} {cl: List (Str × Addr)} {xs: List V} {C: MH → Prop} {fp: List Addr} {St: Nat → Heap → Prop} {I: Addr} {A: Around} {s: Shared} {E: Value → Shared → Prop}
  {RR: Value → Addr → Result → Shared → Prop} (Inv: Nat → List V → MH → Prop)
  (hcell: ∀ y ∈ scope.names, y.2 ≠ .cell) (hkind: scope.kind = .function) (hcl: ClOk scope env cl) (hnd: (cl.map (·.1)).Nodup)
  (a: AOk d fr A) (S: HS w B fr H s) (W: Vars B env ρ H s.heap) (wk: Wk w B d t1 I xs C fp St) (st: St 0 s.heap) (hfB: ∀ b ∈ fp, B.get? b = none) (hfO: ∀ b ∈ fp, ¬ Own env b)
  (hc: C H) (h0: Inv 0 [] H) (hfs: ∀ L z, foldedSetIterable i2 (compEnvC scope cl L env) z = pure z)
  (turn: ∀ L i x ys H', xs[i]? = some x → C H' → Inv i ys H' → TnC w B (compEnvC scope cl L env) d elt t1 i2 t2 cl ρ C (Inv (i + 1)) x ys H')
  (hRR: ∀ D C' H' s' ys m, s.heap.objs.size ≤ D → s.heap.objs.size ≤ C' → D ≠ C' → s'.heap.Ns C' m → MR w s'.heap D (.list ys) → Gr (fun c => False ∨ c ∈ C' :: D :: fp) H s H' s' → HS w B fr H' s' → C H' → Inv xs.length ys H' →
   H'.o D = none → H'.o C' = none → RR (.ref D) C' (.ok .next) s') :
  wpAny (model prg w) A (newList []) (fun acc s₃ => wpAny (model prg w) A (newFunctionEnv scope env.globals cl [] env.qual none .none (some env)) (fun cenv s₄ =>
   codeAny (model prg w) A (.compStart (.ListComp elt [⟨t1, i1, [], 0⟩, ⟨t2, i2, [], 0⟩] scope pos) 0 (.ref I) acc { cenv with scope := relabel scope env }) (RR acc cenv.locals) s₄) E s₃) E s := by
 refine comp_start (fun h => wpAny_newObj_type h) codeAny_compStart_list hcell hkind hcl hnd S W wk st hfO hc rfl fun D C' s₁ cs hD1 => ?_
 obtain ⟨S1, g1, hz, hDe, hC, hfD, hfC, oD, oC, bD, bC, st1, WC, ownC, ownF, hDfr⟩ := cs
 have hDC: ¬ D = C' := by rw [hC]; exact Nat.ne_of_lt (Nat.lt_succ_self _)
 have hDO: ¬ Own (compEnvC scope cl C' env) D := fun q => (ownC D q).elim hDC (Nat.lt_irrefl D)
 refine loop2_0 (CI2 w B fr H s₁ (compEnvC scope cl C' env) (inner cl ρ) D C' fp St C Inv xs.length) (hfs C') ?_ (xs.length + 1) ⟨0, [], H, rfl, Nat.zero_le _, ⟨S1, WC, ⟨#[], ⟨_, hD1⟩, .nil⟩, oD⟩, Gr.refl .., st1, hc, h0, oC⟩
 rintro k s2 ⟨i, ys, H2, rfl, hi, c2, g2, st2, hc2, inv, oC2⟩
 cases hx: xs[i]? with
 | none =>
  have hil: i = xs.length := Nat.le_antisymm hi (by simpa using hx)
  subst hil
  refine wk.done A fr H2 s2 _ _ a c2.hs hc2 (wk.noH c2.hs st2) hfB st2 fun s3 g3 S3 => ?_
  have kt := wk.tk c2.hs st2 g3
  have c3 := c2.step g3 S3 (c2.vars.gx g3 (fun b hb q => ownF b q hb) kt) kt hfD
  obtain ⟨m, hm, uu⟩ := c3.vars.ns
  obtain ⟨vals, pl, rs⟩ := c3.plain
  obtain ⟨n, e⟩ := pl
  exact hRR D C' H2 s3 ys m hDe (hC ▸ Nat.le_succ_of_le hDe) hDC hm ⟨vals.toList, ⟨n, by rw [Array.toArray_toList]; exact e⟩, rs⟩ ((g1.up.trans g2).trans (g3.weaken fun c hc => .inr (.tail _ (.tail _ hc)))) S3 hc2 inv c3.oD oC2
 | some x =>
  have hil: i < xs.length := (List.getElem?_eq_some_iff.mp hx).1
  refine wk.item i x A fr H2 s2 _ _ a c2.hs hc2 (wk.noH c2.hs st2) hfB st2 hx fun val s3 go => go _ _ fun s4 g4 S4 st4 r4 => ?_
  obtain ⟨ρ5, hasg, hsub, hits⟩ := turn C' i x ys H2 hx hc2 inv
  have kt4 := wk.tk c2.hs st2 g4
  have W4 := c2.vars.gx g4 (fun b hb q => ownF b q hb) kt4
  have c4 := c2.step g4 S4 W4 kt4 hfD
  refine hasg A fr H2 s4 val _ _ a S4 W4 r4 fun s5 g5 S5 W5 => ?_
  have kt5 := S4.tupKeep g5.ext (fun a o ha => ownSeq W4 a o (.inl ha))
  have st5 := wk.own S4 st4 g5 kt5 (fun b hb q => hfC (by rw [← show b = C' from q]; exact hb)) hc2 hc2
  have c5 := c4.step g5 S5 W5 kt5 hDC
  have g25: Gr (fun c => False ∨ c ∈ C' :: D :: fp) H s₁ H2 s5 := (g2.trans (g4.weaken fun c hc => .inr (.tail _ (.tail _ hc)))).trans (g5.weaken fun c hc => .inr (by rw [show c = C' from hc]; exact .head _))
  refine hits A fr s5 _ _ a S5 W5 fun I2 xs2 C2 fp2 St2 H6 s6 wk6 st6 hf6 hn6 g6 S6 zz => ?_
  obtain ⟨Inv2, q1, q2, q3, q4⟩ := zz
  have kt6 := S5.tupKeep g6.ext fun uu uu q => q.elim
  have c6 := c5.step g6 S6 (W5.gr S5 g6) kt6 id
  have hfp6: ∀ b ∈ fp2, s₁.heap.objs.size ≤ b := fun b hb => Nat.le_trans g25.ext.size (hf6 b hb)
  have own6: ∀ b ∈ fp2, ¬ Own (compEnvC scope cl C' env) b := fun b hb q => lt_irr (W5.own_lt b q) (hf6 b hb)
  have hD6: D ∉ fp2 := fun q => by have := hfp6 D q; rw [hz] at this; lia
  have inn: codeAny (model prg w) A (.compLoop (.ListComp elt [⟨t1, i1, [], 0⟩, ⟨t2, i2, [], 0⟩] scope pos) 1 (.ref I2) (.ref D) (compEnvC scope cl C' env)) (LR (CI2 w B fr H s₁ (compEnvC scope cl C' env) (inner cl ρ) D C' fp St C Inv xs.length) (xs.length + 1 - i)) s6 := by
   refine inner_loop Inv2 a wk6 st6 c6 (fun b hb => S5.bfresh (hf6 b hb)) own6 hD6 hDO bD hDfr q1 q2 q3 fun ys7 H7 s7 c7 g7 kt7 hc7 inv7 => ?_
   obtain ⟨r1, r2⟩ := q4 ys7 H7 hc7 inv7
   have g67: Gr (fun c => c = C' ∨ c = D ∨ c ∈ fp2) H2 s5 H7 s7 := g6.up.trans g7
   have kt67: TupKeep s5.heap s7.heap := fun b o e c q => kt7 b o (kt6 b o e c q) c q
   refine ⟨xs.length + 1 - (i + 1), by lia, i + 1, ys7, H7, rfl, hil,?_,?_,?_, r1, r2,?_⟩
   ·exact c7.weak fun y v e => by
     by_cases q: (cl.lookup y).isSome = true
     ·simp only [inner, if_pos q] at e; rw [hsub y q]; exact e
     ·simp only [inner, if_neg q] at e; exact nsF e
   ·refine Gr.fresh (fp := fp2) g25 (g67.weaken fun c hc => ?_) hfp6
    rcases hc with rfl | rfl | hc
    ·exact .inl (.inr (.head _))
    ·exact .inl (.inr (.tail _ (.head _)))
    ·exact .inr hc
   ·refine wk.own S5 st5 g67 kt67 (fun b hb q => ?_) hc2 r1
    rcases q with rfl | rfl | q
    ·exact hfC hb
    ·exact hfD hb
    ·obtain ⟨o, vs, e, uu⟩ := wk.priv _ _ st5 b hb
     exact lt_irr (Heap.lt_size e) (hf6 b q)
   ·obtain ⟨m, ⟨o, uu, uu, e, uu⟩, uu⟩ := W5.ns
    exact g67.ext.none' e oC2
  exact start2_1 inn (wk6.self 0 A _ _ _ st6 inn)
inductive CompL2 (w: World) (B: Heap) (env: Env) (d: Nat) (elt t1 i2 t2: Expr) (scope: Scope) (cl: List (Str × Addr)) (ρ: Rho) (Q: List V → MH → Prop) (xs: List V) (C: MH → Prop) (H1: MH): Prop
 | mk (Inv: Nat → List V → MH → Prop) (hc: C H1) (h0: Inv 0 [] H1)
  (turn: ∀ L i x ys H', xs[i]? = some x → C H' → Inv i ys H' → TnC w B (compEnvC scope cl L env) d elt t1 i2 t2 cl ρ C (Inv (i + 1)) x ys H') (fin: ∀ ys H', C H' → Inv xs.length ys H' → Q ys H')
theorem Ex.assign_listcomp2 {x: Str} {px pos': Pos} {elt t1 i1 t2 i2: Expr} {scope: Scope} {pos: Pos} {cl: List (Str × Addr)} {Q: Post} {X: MH → Prop}
  (hclos: closureFor scope env = pure cl) (hcl: ClOk scope env cl) (hnd: (cl.map (·.1)).Nodup)
  (h: Its w B env d i1 t1 ρ H (CompL2 w B env d elt t1 i2 t2 scope cl ρ fun ys H' => ∀ n, H'.o n = none → Q .next (ρ.set x (.ref n)) (H'.set n (.list ys))))
  (hcell: ∀ y ∈ scope.names, y.2 ≠ .cell) (hkind: scope.kind = .function) (hnames: ∀ y ∈ scope.names, y.2 = .local → scope.names.lookup y.1 = some .local)
  (hfs: ∀ L z, foldedSetIterable i2 (compEnvC scope cl L env) z = pure z)
  (hx: Kept env x := by first | exact .inl rfl | exact .inr ⟨rfl, rfl⟩)
  (hsw: swapsWith (.ListComp elt [⟨t1, i1, [], 0⟩, ⟨t2, i2, [], 0⟩] scope pos) (some (.Name x px)) pos'.line env = pure true := by rfl)
  (hs: ∀ x, foldedSetIterable i1 env x = pure x := by intro uu; rfl) :
  Ex w B env d (.Assign [.Name x px] (.ListComp elt [⟨t1, i1, [], 0⟩, ⟨t2, i2, [], 0⟩] scope pos) pos') ρ H Q X := by
 intro A fr s E Q' a hE S W K KX
 rw [exec_Assign_Name_used _ _ _ _ hsw]
 refine wpAny_bind (wpAny_standAt (wpAny_bind ?_))
 show wpAny _ A (do let _ ← comprehension (.ListComp elt [⟨t1, i1, [], 0⟩, ⟨t2, i2, [], 0⟩] scope pos) scope env _ (newList []) false (eval i1 env) (some (PySem.assign (.Name x px) env))) _ _ s
 refine wpAny_bind (wpAny_mono (wpAny_comprehension_free (use := some (PySem.assign (.Name x px) env)) (Q := fun uu s' => Q' .next s') rfl hs hclos hkind hnames
  (h A fr s E _ a S W fun I xs C fp St H1 s1 wk st hf hn g1 S1 zz => ?_)) (fun uu s' hq => wpAny_pure (wpAny_pure hq)) fun uu uu e => e)
 obtain ⟨Inv, hc, h0, turn, fin⟩ := zz
 refine comp_core2 (RR := fun acc C => compPost (model prg w) A E (some (PySem.assign (.Name x px) env)) (fun uu s' => Q' .next s') acc C) Inv hcell hkind hcl hnd a S1 (W.gr S g1) wk st (fun b hb => S.bfresh (hf b hb)) (fun b hb q => absurd (W.own_lt b q) (Nat.not_lt.mpr (hf b hb))) hc h0 hfs turn ?_
 intro D C' H' s' ys m hD hC hDC hns hmr g S' hc' inv oD oC
 have hsz := g1.ext.size
 have bC: B.get? C' = none := S1.bfresh hC
 have bD: B.get? D = none := S1.bfresh hD
 have nfr: ∀ x, s1.heap.objs.size ≤ x → ∀ env ∈ fr, env.frame ≠ some x := fun x hx env he q => absurd (S1.frLt env he x q) (Nat.not_lt.mpr hx)
 have olt: ∀ c, Own env c → c < s1.heap.objs.size := fun c hc => Nat.lt_of_lt_of_le (W.own_lt c hc) hsz
 have hfp: ∀ c ∈ C' :: D :: fp, s.heap.objs.size ≤ c := fun c hc => by
  rcases List.mem_cons.mp hc with rfl | hc
  ·exact Nat.le_trans hsz hC
  ·rcases List.mem_cons.mp hc with rfl | hc
   ·exact Nat.le_trans hsz hD
   ·exact hf c hc
 have onf: ∀ c, Own env c → c ∉ C' :: D :: fp := fun c hc q => absurd (W.own_lt c hc) (Nat.not_lt.mpr (hfp c q))
 have W1 := W.gr S g1
 have S2 := S'.adopt bD (nfr _ hD) hmr (Nat.lt_of_lt_of_le S1.low.1 hD)
 have g': Gr (· ∈ C' :: D :: fp) H1 s1 H' s' := g.weaken fun c hc => hc.resolve_left id
 have kt: TupKeep s1.heap s'.heap := S1.tupKeep g'.ext fun c o hc e xs n q => by
  rcases List.mem_cons.mp hc with rfl | hc
  ·exact absurd (Heap.lt_size e) (Nat.not_lt.mpr hC)
  ·rcases List.mem_cons.mp hc with rfl | hc
   ·exact absurd (Heap.lt_size e) (Nat.not_lt.mpr hD)
   ·obtain ⟨o', vs, e', uu, hd⟩ := wk.priv 0 _ st c hc
    obtain rfl := Option.some.inj (e.symm.trans e'); rw [hd] at q; cases q
 have g2': Gr (· ∈ C' :: D :: fp) H1 s1 (H'.set D (.list ys)) s' := g'.adopt hD
 have W2: Vars B env ρ (H'.set D (.list ys)) s'.heap := W1.gx g2' onf kt
 refine wpAny_assign_Name (store_name S2 W2 (.ref D) hx fun s3 g3 S3 W3 => ?_)
 obtain ⟨o, es, ep, eC, dC, rC⟩ := hns
 have oC2: (H'.set D (.list ys)).o C' = none := by rw [MH.set_ne H' _ (Ne.symm hDC)]; exact oC
 have nC: ¬ Own env C' := fun q => absurd (olt C' q) (Nat.not_lt.mpr hC)
 obtain ⟨o3, e3, d3, uu⟩ := g3.ext.fkeep C' o eC oC2 nC
 have hns3: s3.heap.Ns C' m := ⟨o3, es, ep, e3, d3.trans dC, rC⟩
 refine ⟨m, hns3, fun h' sb => ?_⟩
 obtain ⟨S4, g4, kt4⟩ := S3.free hns3 oC2 bC (nfr _ hC) sb
 have W4 := W3.gx g4 (fun b hb q => nC (by rw [← show b = C' from q]; exact hb)) kt4
 refine K _ .next _ _ _ ?_ S4 W4 .next (fin ys H' hc' inv D oD)
 refine Gr.fresh (fp := C' :: D :: fp) g1.up ?_ hfp
 exact ((g2'.weaken fun c hc => .inr hc).trans (g3.weaken fun c hc => .inl hc)).trans (g4.weaken fun c hc => .inr (by rw [show c = C' from hc]; exact .head _))
end
end
section
variable {w: World} {B: Heap} {env: Env} {d: Nat} {ρ: Rho} {H: MH}
variable {Q: V → MH → Prop} {X: MH → Prop}
set_option maxHeartbeats 1000000
theorem leastP_mem {o: Od} {ls: List Mo} {ws: List Pr} {p: Pr} (h: leastP o ls ws = some p): p ∈ ws := by
 have: ∀ (ws: List Pr) (b: Option Pr), ws.foldl (lessP o ls) b = some p → b = some p ∨ p ∈ ws := by
  intro ws
  induction ws with
  | nil => intro b h; exact .inl h
  | cons e ws ih =>
   intro b h
   rcases ih _ h with q | q
   ·cases b with
    | none => cases q; exact .inr (.head _)
    | some b =>
     simp only [lessP] at q
     split at q
     ·obtain rfl := Option.some.inj q; exact .inr (.head _)
     ·exact .inl q
   ·exact .inr (.tail _ q)
 rcases this ws none h with q | q
 ·exact nsF q
 ·exact q
theorem leastP_nil {o: Od} {ls: List Mo} {ws: List Pr} (h: leastP o ls ws = none): ws = [] := by
 cases ws with
 | nil => rfl
 | cons e ws =>
  exfalso
  have: ∀ (ws: List Pr) (b: Pr), ws.foldl (lessP o ls) (some b) ≠ none := by
   intro ws
   induction ws with
   | nil => intro b h; cases h
   | cons e ws ih =>
    intro b h
    simp only [List.foldl_cons, lessP] at h
    split at h
    ·exact ih _ h
    ·exact ih _ h
  exact this ws e h
theorem mem_pairsTo {n: Nat} {p: Pr} (h: p ∈ pairsTo n): p.1 < n ∧ p.2 = n := by
 obtain ⟨i, hi, rfl⟩ := List.mem_map.mp h
 exact ⟨List.mem_range.mp hi, rfl⟩
theorem mem_pairs0 {n: Nat} {p: Pr} (h: p ∈ pairs0 n): p.1 < p.2 ∧ p.2 < n := by
 obtain ⟨j, hj, hp⟩ := List.mem_flatMap.mp h
 obtain ⟨h1, h2⟩ := mem_pairsTo hp
 rw [h2]; exact ⟨h1, List.mem_range.mp hj⟩
theorem pairs0_succ (n: Nat): pairs0 (n + 1) = pairs0 n ++ pairsTo n := by
 unfold pairs0; rw [List.range_succ, List.flatMap_append]; simp
theorem pairsTo_length (n: Nat): (pairsTo n).length = n := by simp [pairsTo]
theorem pairs0_length (n: Nat): (pairs0 n).length ≤ n * n := by
 induction n with
 | zero => simp [pairs0]
 | succ n ih =>
  rw [pairs0_succ, List.length_append, pairsTo_length]
  have: (n + 1) * (n + 1) = n * n + 2 * n + 1 := by rw [Nat.add_mul, Nat.mul_add]; lia
  lia
theorem pairsTo_take (n j: Nat) (h: j < n): (pairsTo n).take (j + 1) = (pairsTo n).take j ++ [(j, n)] := by
 rw [take_succ_get]
 simp [pairsTo, List.getElem?_range h]
theorem rem1_mem {ws: List Pr} {p q: Pr} (h: q ∈ rem1 ws p): q ∈ ws := (List.mem_filter.mp h).1
theorem rem1_length (ws: List Pr) (p: Pr): (rem1 ws p).length ≤ ws.length := List.length_filter_le ..
end
section
variable {w: World} {B: Heap} {env: Env} {d: Nat} {ρ: Rho} {H: MH}
variable {Q: V → MH → Prop} {X: MH → Prop}
inductive GInv (o: Od) (l: Addr) (most: Nat) (r: Option (List Po)) (bl ll: Addr) (H: MH) (n: Nat) (ρ': Rho) (H': MH): Prop
 | mk (st: GSt) (brs: List Addr) (wl: Addr) (run: GRun o most n st r) (hle: HLe H H') (v1: ρ' "order" = some (oV o)) (v2: ρ' "most" = some (.int (most: Nat))) (v3: ρ' "basis" = some (.ref bl)) (v4: ρ' "leads" = some (.ref ll)) (v5: ρ' "waiting" = some (.ref wl)) (v6: ρ' "done" = some (.int (st.done: Nat)))
   (o1: H'.o bl = some (.list (brs.map V.ref))) (o2: PList H' brs st.basis) (o3: ∀ r ∈ brs, H.o r = none) (o4: H'.o ll = some (.list (st.leads.map MV))) (o5: H'.o wl = some (.list (st.waiting.map MV))) (n1: wl ≠ bl) (n2: wl ≠ ll) (n3: H.o wl = none)
   (b1: st.leads.length = st.basis.length) (b2: st.basis.length ≤ 100 + st.done) (b3: st.done ≤ most) (b4: st.waiting.length ≤ 20000 + 300 * st.done) (b5: ∀ p ∈ st.waiting, p.1 < st.leads.length ∧ p.2 < st.leads.length)
inductive GNext (o: Od) (most n: Nat) (st: GSt) (p: Pr) (r: Option (List Po)): Prop
 | mk (n': Nat) (f g: Po) (lf lg: Mo × Rat) (fin: DSt) (hn': n' < n) (hf: st.basis[p.1]? = some f) (hg: st.basis[p.2]? = some g) (hlf: lead o f = some lf) (hlg: lead o g = some lg) (okf: OkP f) (okg: OkP g)
   (ok1: OkP (shiftP f (mM (mjoin lf.1 lg.1) lf.1) lf.2⁻¹)) (ok2: OkP (shiftP g (mM (mjoin lf.1 lg.1) lg.1) lg.2⁻¹)) (hdiv: Div o (spoly f g lf lg) st.basis fin)
   (hcont: (fin.rest = [] ∧ GRun o most n' { st with waiting := rem1 st.waiting p, done := st.done + 1 } r) ∨
        ∃ lr, lead o fin.rest = some lr ∧ OkP fin.rest ∧ GRun o most n' ⟨st.basis ++ [monicP o fin.rest], st.leads ++ [lr.1], rem1 st.waiting p ++ pairsTo st.basis.length, st.done + 1⟩ r)
section
variable {o: Od} {most n: Nat} {st: GSt} {r: Option (List Po)} {p: Pr} (run: GRun o most n st r)
include run
theorem GRun.at_nil (hst: st.waiting = []): r = some st.basis := by
 cases run with
 | stop uu => rfl
 | limit q uu uu => rw [hst] at q; cases q
 | step q uu => cases q with
  | skip q uu => rw [hst] at q; cases q
  | zero q => rw [hst] at q; cases q
  | grow q => rw [hst] at q; cases q
variable (hlp: leastP o st.leads st.waiting = some p)
include hlp
theorem GRun.at_skip (hnd: needless p (rem1 st.waiting p) st.leads = true): ∃ n', n' < n ∧ GRun o most n' { st with waiting := rem1 st.waiting p } r := by
 cases run with
 | stop q => rw [q] at hlp; cases hlp
 | limit q1 q2 uu => rw [hlp] at q1; obtain rfl := Option.some.inj q1; rw [hnd] at q2; cases q2
 | step q run' => cases q with
  | zero q1 q2 => rw [hlp] at q1; obtain rfl := Option.some.inj q1; rw [hnd] at q2; cases q2
  | grow q1 q2 => rw [hlp] at q1; obtain rfl := Option.some.inj q1; rw [hnd] at q2; cases q2
  | skip q1 q2 => rw [hlp] at q1; obtain rfl := Option.some.inj q1; exact ⟨_, Nat.lt_succ_self _, run'⟩
variable (hnd: needless p (rem1 st.waiting p) st.leads = false)
include hnd
theorem GRun.at_step (hmd: st.done + 1 ≤ most): GNext o most n st p r := by
 cases run with
 | stop q => rw [q] at hlp; cases hlp
 | limit q1 q2 q3 => exact absurd q3 (Nat.not_lt.mpr hmd)
 | step q run' => cases q with
  | skip q1 q2 => rw [hlp] at q1; obtain rfl := Option.some.inj q1; rw [hnd] at q2; cases q2
  | zero q1 q2 q3 a1 a2 a3 a4 a5 a6 a7 a8 a9 a10 => rw [hlp] at q1; obtain rfl := Option.some.inj q1; exact ⟨_, _, _, _, _, _, Nat.lt_succ_self _, a1, a2, a3, a4, a5, a6, a7, a8, a9, .inl ⟨a10, run'⟩⟩
  | grow q1 q2 q3 a1 a2 a3 a4 a5 a6 a7 a8 a9 a10 a11 => rw [hlp] at q1; obtain rfl := Option.some.inj q1; exact ⟨_, _, _, _, _, _, Nat.lt_succ_self _, a1, a2, a3, a4, a5, a6, a7, a8, a9, .inr ⟨_, a10, a11, run'⟩⟩
theorem GRun.at_limit (hmd: ¬ st.done + 1 ≤ most): r = none := by
 cases run with
 | stop q => rw [q] at hlp; cases hlp
 | limit q1 q2 uu => rfl
 | step q run' => cases q with
  | zero q1 q2 q3 => exact absurd q3 hmd
  | grow q1 q2 q3 => exact absurd q3 hmd
  | skip q1 q2 => rw [hlp] at q1; obtain rfl := Option.some.inj q1; rw [hnd] at q2; cases q2
end
set_option maxHeartbeats 2000000
inductive I41 (o: Od) (H: MH) (ps: List Po) (i: Nat) (ys: List V) (H': MH): Prop
 | mk (c1: HLe H H') (brs: List Addr) (c2: ys = brs.map V.ref) (c3: brs.length = i) (c4: (∀ r ∈ brs, H.o r = none)) (c5: PList H' brs ((ps.map (monicP o)).take i))
theorem cal_groebner (D: Wd w B) {o: Od} {l: Addr} {rs: List Addr} {ps: List Po} {most n: Nat} {r: Option (List Po)} (hl: H.o l = some (.list (rs.map V.ref))) (hp: PList H rs ps) (hlen: ps.length ≤ 100) (hmost: most ≤ 100)
  (ok: ∀ p ∈ ps, OkP p ∧ p ≠ [] ∧ ((monicP o p).map (·.1)).Nodup ∧ monicP o p ≠ [])
  (run: GRun o most n ⟨ps.map (monicP o), (ps.map (monicP o)).map (lM o), pairs0 ps.length, 0⟩ r)
  (h: ∀ G, r = some G → ∀ l' rs' H', HLe H H' → H.o l' = none → H'.o l' = some (.list (rs'.map V.ref)) → PList H' rs' G → (∀ r ∈ rs', H.o r = none) → Q (.ref l') H') (hx: r = none → ∀ H', HLe H H' → X H') :
  CalX w B (d + 10) (.ref 245) [.ref l, oV o, .int most] H Q X := by
 have hpl := hp.length
 refine CalX.enter (names := ["some", "order", "most"]) D rfl rfl (by exact len3 fun uu uu uu => rfl) (by decide) rfl (by decide) fun L => ?_
 refine Xc fun uu uu => ?_
 refine Xa ?_
 refine Ev.klc ?_
 refine Its.kof ?_
 refine En ?_
 refine ⟨_, _, Itb.list hl, I41 o H ps, hl, ⟨HLe.refl _, [], rfl, rfl, by simp, .nil⟩, by simp; lia,?_,?_⟩
 ·rintro L i x ys H' hx uu ⟨hle, brs, rfl, hi, hb, hq⟩
  obtain ⟨r1, hr1, rfl⟩ := rs_get hx
  obtain ⟨p, hpi, hrp⟩ := hp.get hr1
  obtain ⟨okp, pne, mn, mne⟩ := ok p (List.mem_of_getElem? hpi)
  have hll := okp.len
  refine ⟨_, AsgL.name rfl, by repeat first | exact sub_inner | refine sub_set rfl ?_,?_⟩
  unfold If1
  dsimp only [TB, TE]
  refine Tk ?_ (by with_unfolding_all rfl)
  refine Ev.kcall_bi ?_;refine Ea ?_;refine En ?_;refine Eo ?_
  refine Cal.len_poly (hle.get hrp) ?_ (by rw [eP_length]; lia)
  refine Ei ?_;refine Cmp.gt_int ?_;refine ⟨_, rfl,?_⟩
  refine iteT (by rw [eP_length]; have := List.length_pos_iff.mpr pne; simpa using this) ?_
  refine Ek ?_;refine Ea ?_;refine En ?_;refine Ea ?_;refine En ?_;refine Eo ?_
  refine cal_mvmonic D (hle.get hrp) okp fun k H1 l1 hk h1 => ?_
  refine ⟨(hle.trans l1).get hl, hle.trans l1, brs ++ [k], by simp, by simp [hi], fun r hr => ?_,?_⟩
  ·rcases List.mem_append.mp hr with hr | hr
   ·exact hb r hr
   ·rw [List.mem_singleton] at hr; rw [hr]; exact hle.none hk
  ·rw [take_succ_get (by rw [List.getElem?_map, hpi]; rfl)]
   exact (hq.le l1).append (.cons h1 .nil)
 rintro ys H1 uu ⟨l1, brs, rfl, hi, hb, hq⟩ bl hbl
 have hq': PList H1 brs (ps.map (monicP o)) := by
  rw [List.length_map, hpl] at hi
  have: (ps.map (monicP o)).take (rs.map V.ref).length = ps.map (monicP o) := by rw [List.length_map, hpl, ← List.length_map (f := monicP o), List.take_length]
  rw [this] at hq; exact hq
 have l2: HLe H (H1.set bl (.list (brs.map V.ref))) := l1.trans (HLe.new hbl _)
 have nbl: H.o bl = none := l1.none hbl
 have hq2 := hq'.le (HLe.new hbl (.list (brs.map V.ref)))
 have hbl2: (H1.set bl (.list (brs.map V.ref))).o bl = some (.list (brs.map V.ref)) := MH.set_self ..
 revert l2 hq2 hbl2
 refine gen_ (H1.set bl (.list (brs.map V.ref))) ?_
 intro H2 l2 hq2 hbl2
 refine Tn ?_
 refine Xc fun uu uu => ?_
 refine Ex.klca ?_
 refine Its.kof ?_
 refine En ?_
 have okm: ∀ q ∈ ps.map (monicP o), (q.map (·.1)).Nodup ∧ q ≠ [] := fun q hq => by
  obtain ⟨p, hp', rfl⟩ := List.mem_map.mp hq
  exact ⟨(ok p hp').2.2.1, (ok p hp').2.2.2⟩
 have hbrl: brs.length = ps.length := by rw [hq2.length, List.length_map]
 refine ⟨_, _, Itb.list hbl2, CompL.map (zs := ((ps.map (monicP o)).map (lM o)).map MV) (by simp [hbrl]) (fun H' hle => hle.get hbl2) (by simp; lia) (fun L i x H' hx hle => ?_) fun H3 l3 ll hll => ?_⟩
 ·obtain ⟨r1, hr1, rfl⟩ := rs_get hx
  obtain ⟨p, hpi, hrp⟩ := hq2.get hr1
  obtain ⟨nd, ne⟩ := okm p (List.mem_of_getElem? hpi)
  refine ⟨_, AsgL.name rfl, by repeat first | exact sub_inner | refine sub_set rfl ?_,?_⟩
  refine Eb ?_;refine Ek ?_;refine Ea ?_;refine En ?_;refine Ea ?_;refine En ?_;refine Eo ?_
  refine cal_mvlead D (hle.get hrp) nd fun H4 l4 => ?_
  cases hlp: lead o p with
  | none => exact absurd (lead_none.mp hlp) ne
  | some lp =>
   simp only [leadV]
   refine Ei ?_;refine Iu ?_
   refine ⟨hle.trans l4,?_⟩
   rw [List.getElem?_map, List.getElem?_map, hpi]
   simp only [Option.map_some, lM, hlp]
 have l3': HLe H (H3.set ll (.list (((ps.map (monicP o)).map (lM o)).map MV))) := (l2.trans l3).trans (HLe.new hll _)
 have k3: HLe H2 (H3.set ll (.list (((ps.map (monicP o)).map (lM o)).map MV))) := l3.trans (HLe.new hll _)
 have nll: H.o ll = none := (l2.trans l3).none hll
 have hll3: (H3.set ll (.list (((ps.map (monicP o)).map (lM o)).map MV))).o ll = some (.list (((ps.map (monicP o)).map (lM o)).map MV)) := MH.set_self ..
 have bll: bl ≠ ll := fun q => by have := l3.get hbl2; rw [q, hll] at this; exact nsF this
 revert l3' k3 hll3
 refine gen_ (H3.set ll (.list (((ps.map (monicP o)).map (lM o)).map MV))) ?_
 intro H4 l3' k3 hll3
 refine Tn ?_
 refine Xc fun uu uu => ?_
 ((with_reducible refine' Ex.assign_listcomp2 ?k1 ?k2 ?k3 ?_ ?k4 ?k5 ?k6 ?k10 ?k8 ?k9 ?k7); (case k1 => rfl); (case k2 => first | exact True.intro | exact ⟨rfl, rfl, True.intro⟩ | exact ⟨rfl, rfl, rfl, rfl, True.intro⟩ | exact ⟨rfl, rfl, rfl, rfl, rfl, rfl, True.intro⟩); (case k3 => first | decide | (simp only [List.map_cons, List.map_nil]; decide)); (case k4 => decide); (case k5 => rfl); (case k6 => decide); (case k7 => intro _; rfl); (case k8 => first | exact Or.inl rfl | exact Or.inr ⟨rfl, rfl⟩); (case k9 => rfl); (case k10 => intro _ _; rfl))
 refine Its.krange1 ?_
 refine Ev.kcall_bi ?_;refine Ea ?_;refine En ?_;refine Eo ?_
 refine Cal.len_list (k3.get hbl2) ?_ (by rw [List.length_map, hbrl]; lia)
 refine ⟨ps.length, by lia, by rw [List.length_map, hbrl], fun i ys H' => HLe H4 H' ∧ ys = (pairs0 i).map MV, True.intro, ⟨HLe.refl _, rfl⟩,?_,?_⟩
 ·rintro L i x ys H' hx uu ⟨hle, rfl⟩
  obtain ⟨hi, rfl⟩ := rangeV_get hx
  refine ⟨_, AsgL.name rfl, by repeat first | exact sub_inner | refine sub_set rfl ?_,?_⟩
  refine Its.krange1 ?_
  refine En ?_
  refine ⟨i, by lia, rfl, fun j ys' H5 => HLe H4 H5 ∧ ys' = (pairs0 i).map MV ++ ((pairsTo i).take j).map MV, True.intro, ⟨hle, by simp⟩,?_,?_⟩
  ·rintro j y ys' H5 hy uu ⟨hle5, rfl⟩
   obtain ⟨hj, rfl⟩ := rangeV_get hy
   refine ⟨?_, _, AsgL.name rfl, fun x v e => ?_,?_⟩
   ·have h1 := pairs0_length i
    have h2: ((pairsTo i).take j).length ≤ i := by rw [List.length_take, pairsTo_length]; lia
    have h3: i * i ≤ 100 * 100 := Nat.mul_le_mul (by lia) (by lia)
    rw [List.length_append, List.length_map, List.length_map]; lia
   ·by_cases q: x = "one"
    ·subst q; cases e
    ·simp only [Rho.set, if_neg q] at e ⊢; exact e
   ·refine Et ?_;refine Ea ?_;refine En ?_;refine Ea ?_;refine En ?_;refine Eo ?_
    refine ⟨True.intro, hle5,?_⟩
    rw [pairsTo_take i j hj, List.map_append, List.append_assoc]; rfl
  ·rintro ys' H5 uu ⟨hle5, rfl⟩
   refine ⟨True.intro, hle5,?_⟩
   rw [pairs0_succ, List.map_append, rangeV_length, List.take_of_length_le (by rw [pairsTo_length]; exact Nat.le_refl _)]
 rintro ys H5 uu ⟨l5, rfl⟩ wl hwl
 rw [rangeV_length] at *
 have l5': HLe H (H5.set wl (.list ((pairs0 ps.length).map MV))) := (l3'.trans l5).trans (HLe.new hwl _)
 have k5: HLe H4 (H5.set wl (.list ((pairs0 ps.length).map MV))) := l5.trans (HLe.new hwl _)
 have nwl: H.o wl = none := (l3'.trans l5).none hwl
 have hwl5: (H5.set wl (.list ((pairs0 ps.length).map MV))).o wl = some (.list ((pairs0 ps.length).map MV)) := MH.set_self ..
 have wll: wl ≠ ll := fun q => by have := l5.get hll3; rw [← q, hwl] at this; exact nsF this
 have wbl: wl ≠ bl := fun q => by have := l5.get (k3.get hbl2); rw [← q, hwl] at this; exact nsF this
 revert l5' k5 hwl5
 refine gen_ (H5.set wl (.list ((pairs0 ps.length).map MV))) ?_
 intro H6 l5' k5 hwl5
 refine Tn ?_;refine Xc fun uu uu => ?_;refine Xa ?_;refine Ei ?_;refine Tn ?_;refine Xc fun uu uu => ?_
 refine Ex.whileB (GInv o l most r bl ll H)
  n ⟨_, brs, wl, run, l5', rfl, rfl, rfl, rfl, rfl, rfl, (k3.trans k5).get hbl2, hq2.le (k3.trans k5), fun r hr => ?_, k5.get hll3, hwl5, wbl, wll, nwl, by simp, by simp; lia, by simp,?_, fun p hp' => ?_⟩ ?_
 ·exact hb r hr
 ·have h1 := pairs0_length ps.length
  have h3: ps.length * ps.length ≤ 100 * 100 := Nat.mul_le_mul hlen hlen
  show (pairs0 ps.length).length ≤ _
  lia
 ·obtain ⟨h1, h2⟩ := mem_pairs0 hp'
  simp only [List.length_map]; lia
 rintro n ρ' H' ⟨st, brs, wl, run, hle, v1, v2, v3, v4, v5, v6, o1, o2, o3, o4, o5, n1, n2, n3, b1, b2, b3, b4, b5⟩
 have lw: (st.waiting.map MV).length ≤ 1000000 := by rw [List.length_map]; lia
 have lb: (brs.map V.ref).length = st.basis.length := by rw [List.length_map, o2.length]
 refine Tk ?_ (by with_unfolding_all rfl)
 refine Ev.kcall_bi ?_;refine Ea ?_
 refine Em v5 ?_
 refine Eo ?_
 refine Cal.len_list o5 ?_ lw
 refine Ei ?_;refine Cmp.gt_int ?_;refine ⟨_, rfl,?_⟩
 cases hlp: leastP o st.leads st.waiting with
 | none =>
  have hst := leastP_nil hlp
  refine iteF (by rw [hst]; decide) ?_
  refine Tn ?_;refine Xc fun uu uu => ?_;refine Xr ?_
  refine Em v3 ?_
  refine Tq ?_
  exact h _ (run.at_nil hst) bl brs H' hle nbl o1 o2 o3
 | some p =>
 have hmem := leastP_mem hlp
 obtain ⟨p1, p2⟩ := b5 p hmem
 refine iteT (by rw [List.length_map]; have := List.length_pos_of_mem hmem; simpa using this) ?_
 refine (fun (uu: Post) (uu: PLe _ _) => ?_)
 refine Xc fun uu uu => ?_
 refine Xa ?_;refine Ek ?_;refine Ea ?_
 refine Em v5 ?_
 refine Ea ?_
 refine Em v4 ?_
 refine Ea ?_
 refine Em v1 ?_
 refine Eo ?_
 refine cal_least_pair D o4 o5 (by lia) b5 fun H7 l7 => ?_
 rw [hlp]
 simp only [prV]
 refine Tn ?_
 refine Xc fun uu uu => ?_
 refine Ex.klca ?_
 refine Its.kof ?_
 skip
 refine Em v5 ?_
 refine ⟨_, _, Itb.list (l7.get o5), CompL.acc (fun i => (((st.waiting.take i).filter fun q => decide (q ≠ p)).map MV)) rfl (fun H' hle => hle.get (l7.get o5)) lw (fun L i x H' hx hle => ?_) fun H8 l8 wl2 hwl2 => ?_⟩
 ·rw [List.getElem?_map] at hx
  obtain ⟨q, hq, rfl⟩ := Option.map_eq_some_iff.mp hx
  refine ⟨_, AsgL.name rfl, by repeat first | exact sub_inner | refine sub_set rfl ?_,?_⟩
  unfold If1
  dsimp only [TB, TE]
  refine Tk ?_ (by with_unfolding_all rfl)
  refine En ?_;refine En ?_
  refine Cmp.ne (keyV_eq .lex q p) ?_
  refine ⟨_, rfl,?_⟩
  by_cases e: q = p
  ·subst e
   refine iteF (by simp) ⟨hle,?_⟩
   dsimp only [KAcc]
   rw [take_succ_get hq, List.filter_append, List.map_append]
   simp
  ·refine iteT (by simp [e]) ?_
   refine En ?_
   refine ⟨hle,?_⟩
   dsimp only [KAcc]
   rw [take_succ_get hq, List.filter_append, List.map_append]
   simp [e]
 have hw2: ((st.waiting.take (st.waiting.map MV).length).filter fun q => decide (q ≠ p)) = rem1 st.waiting p := by rw [List.length_map, List.take_length]; rfl
 rw [hw2] at *
 have l9: HLe H' (H8.set wl2 (.list ((rem1 st.waiting p).map MV))) := (l7.trans l8).trans (HLe.new hwl2 _)
 have hle9 := hle.trans l9
 have nwl2: H.o wl2 = none := hle.none ((l7.trans l8).none hwl2)
 have hwl9: (H8.set wl2 (.list ((rem1 st.waiting p).map MV))).o wl2 = some (.list ((rem1 st.waiting p).map MV)) := MH.set_self ..
 have w2l: wl2 ≠ ll := fun q => by have := (l7.trans l8).get o4; rw [← q, hwl2] at this; exact nsF this
 have w2b: wl2 ≠ bl := fun q => by have := (l7.trans l8).get o1; rw [← q, hwl2] at this; exact nsF this
 revert l9 hle9 hwl9
 refine gen_ (H8.set wl2 (.list ((rem1 st.waiting p).map MV))) ?_
 intro H9 l9 hle9 hwl9
 have b4' := rem1_length st.waiting p
 refine Tn ?_;refine Xc fun uu uu => ?_;refine Xi ?_
 refine Ts.kval ?_ (by intro uu; rfl)
 refine Ek ?_;refine Ea ?_;refine En ?_;refine Ea ?_;refine En ?_;refine Ea ?_
 refine Em v4 ?_
 refine Eo ?_
 refine cal_is_needless D (l9.get o4) hwl9 (by lia) p1 p2 fun H10 l10 => ?_
 refine Tt.bool ?_
 have hle10 := hle9.trans l10
 have l910 := l9.trans l10
 have iw: ∀ q ∈ rem1 st.waiting p, q.1 < st.leads.length ∧ q.2 < st.leads.length := fun q hq => b5 q (rem1_mem hq)
 cases hnd: needless p (rem1 st.waiting p) st.leads with
 | true =>
  refine iteT rfl ?_
  refine Xc fun uu uu => ?_;refine Ex.cont_ ?_;refine Then.kcont ?_;refine Then.kcont ?_
  obtain ⟨n', hn', run'⟩ := run.at_skip hlp hnd
  refine Lp.cont (by assumption) ?_;refine ⟨n', hn', _, brs, wl2, run', hle10, v1, v2, v3, v4, rfl, v6, l910.get o1, o2.le l910, o3, l910.get o4, l10.get hwl9, w2b, w2l, nwl2, b1, b2, b3,?_, iw⟩
  show (rem1 st.waiting p).length ≤ 20000 + 300 * st.done
  lia
 | false =>
  refine iteF (by decide) ?_
  refine Xo ?_
  refine Tn ?_
  refine Xc fun uu uu => ?_
  refine Ex.kaug v6 rfl ?_
  refine Ei ?_;refine ⟨_, rfl,?_⟩; refine Tn ?_;refine Xc fun uu uu => ?_;refine Xi ?_;refine Tk ?_;refine En ?_
  refine Em v2 ?_
  refine Cmp.gt_int ?_;refine ⟨_, rfl,?_⟩
  by_cases hmd: st.done + 1 ≤ most
  ·refine iteF (by simp; lia) ?_
   refine Xo ?_
   refine Tn ?_
   obtain ⟨n', f, g, lf, lg, fin, hn', hf, hg, hlf, hlg, okf, okg, ok1, ok2, hdiv, hcont⟩ := run.at_step hlp hnd hmd
   have o2' := o2.le l910
   obtain ⟨rf, hrf, hof⟩ := o2'.get' hf
   obtain ⟨rg, hrg, hog⟩ := o2'.get' hg
   have o1' := l910.get o1
   refine Xc fun uu uu => ?_
   refine Xa ?_
   refine Ek ?_
   refine Ea ?_;refine Ek ?_;refine Ea ?_;refine Eb ?_
   refine Em v3 ?_
   refine Eb ?_;refine En ?_;refine Ei ?_;refine Iu ?_
   refine Iti.list o1' (by simp) (by simp; lia) (by rw [Int.toNat_natCast, List.getElem?_map, hrf]; rfl) ?_
   refine Ea ?_;refine Eb ?_
   refine Em v3 ?_
   refine Eb ?_;refine En ?_;refine Ei ?_;refine Iu ?_
   refine Iti.list o1' (by simp) (by simp; lia) (by rw [Int.toNat_natCast, List.getElem?_map, hrg]; rfl) ?_
   refine Ea ?_
   refine Em v1 ?_
   refine Eo ?_
   refine cal_s_poly D hof hog okf okg hlf hlg ok1 ok2 fun k H11 l11 hk hsp => ?_
   refine Ea ?_
   refine Em v3 ?_
   refine Ea ?_
   refine Em v1 ?_
   refine Eo ?_
   have l911 := l910.trans l11
   refine cal_rest_of D hsp (l911.get o1) (o2.le l911) (by rw [o2.length]; lia) hdiv fun r0 H12 l12 hr0 hres => ?_
   have l912 := l911.trans l12
   have hle12 := hle.trans l912
   have hw12 := (l10.trans (l11.trans l12)).get hwl9
   have lrest: fin.rest.length ≤ 1000000 := by
    rcases hcont with ⟨e, uu⟩ | ⟨uu, uu, okr, uu⟩
    ·rw [e]; decide
    ·exact Nat.le_trans okr.len (by decide)
   refine Tn ?_;refine Xc fun uu uu => ?_;refine Xi ?_;refine Tk ?_;refine Ev.kcall_bi ?_;refine Ea ?_;refine En ?_;refine Eo ?_
   refine Cal.len_poly hres ?_ (by rw [eP_length]; exact lrest)
   refine Ei ?_;refine Cmp.gt_int ?_;refine ⟨_, rfl,?_⟩
   rcases hcont with ⟨e, run'⟩ | ⟨lr, hlr, okr, run'⟩
   ·refine iteF (by rw [e]; decide) ?_
    refine Xo ?_;refine Tn ?_;refine Xo ?_
    refine Lp.next (by assumption) ?_;refine ⟨n', hn', _, brs, wl2, run', hle12, v1, v2, v3, v4, rfl, rfl, l912.get o1, o2.le l912, o3, l912.get o4, hw12, w2b, w2l, nwl2, b1,?_,?_,?_, iw⟩
    ·show st.basis.length ≤ 100 + (st.done + 1); lia
    ·show st.done + 1 ≤ most; lia
    ·show (rem1 st.waiting p).length ≤ 20000 + 300 * (st.done + 1); lia
   ·refine iteT (by rw [eP_length]; have := List.length_pos_of_mem (lead_mem hlr); simpa using this) ?_
    refine Xc fun uu uu => ?_
    refine Ex.kexpr ?_
    refine Ev.kmethod (id := "list.extend") PySem.F.plainAttrs_list PySem.F.slot_list_extend PySem.F.type_list_extend ?_
    refine En ?_
    refine ⟨OnT.list hw12,?_⟩
    refine Ea ?_
    refine Ev.klc ?_
    refine Its.krange1 ?_
    refine Ev.kcall_bi ?_;refine Ea ?_
    refine Em v3 ?_
    refine Eo ?_
    refine Cal.len_list (l912.get o1) ?_ (by rw [lb]; lia)
    rw [lb]
    refine ⟨st.basis.length, by lia, rfl, CompL.map (zs := (pairsTo st.basis.length).map MV) (by rw [List.length_map, pairsTo_length, rangeV_length]) (fun uu uu => True.intro) (by rw [rangeV_length]; lia) (fun L i x H' hx hle => ?_) fun H13 l13 nl hnl => ?_⟩
    ·obtain ⟨hi, rfl⟩ := rangeV_get hx
     refine ⟨_, AsgL.name rfl, by repeat first | exact sub_inner | refine sub_set rfl ?_,?_⟩
     refine Et ?_;refine Ea ?_;refine En ?_;refine Ea ?_;refine Ev.kcall_bi ?_;refine Ea ?_
     refine Em v3 ?_
     refine Eo ?_
     refine Cal.len_list (hle.get (l912.get o1)) ?_ (by rw [lb]; lia)
     rw [lb]
     refine Eo ?_
     refine ⟨hle,?_⟩
     rw [List.getElem?_map]
     simp [pairsTo, List.getElem?_range hi]
    have k14: HLe H12 (H13.set nl (.list ((pairsTo st.basis.length).map MV))) := l13.trans (HLe.new hnl _)
    have h14: (H13.set nl (.list ((pairsTo st.basis.length).map MV))).o nl = some (.list ((pairsTo st.basis.length).map MV)) := MH.set_self ..
    revert k14 h14
    refine gen_ (H13.set nl (.list ((pairsTo st.basis.length).map MV))) ?_
    intro H14 k14 h14
    refine Eo ?_
    have l914 := l912.trans k14
    refine Cal.extend (k14.get hw12) h14 (by simp only [List.length_map, pairsTo_length]; lia) ?_
    rw [← List.map_append]
    have up15: HUp wl2 H14 (H14.set wl2 (.list ((rem1 st.waiting p ++ pairsTo st.basis.length).map MV))) := HUp.set _ _ _
    have h15: (H14.set wl2 (.list ((rem1 st.waiting p ++ pairsTo st.basis.length).map MV))).o wl2 = some (.list ((rem1 st.waiting p ++ pairsTo st.basis.length).map MV)) := MH.set_self ..
    revert up15 h15
    refine gen_ (H14.set wl2 (.list ((rem1 st.waiting p ++ pairsTo st.basis.length).map MV))) ?_
    intro H15 up15 h15
    have hle15: HLe H H15 := HUp.le (hle.trans l914) nwl2 up15
    have hob15 := up15.get (l914.get o1) (Ne.symm w2b)
    have hol15 := up15.get (l914.get o4) (Ne.symm w2l)
    have nwr: wl2 ∉ brs := fun q => by
     obtain ⟨j, hj⟩ := List.getElem?_of_mem q
     obtain ⟨pp, uu, e⟩ := (o2.le l912).get hj
     rw [hw12] at e; cases e
    have opl15: PList H15 brs st.basis := (o2.le l914).up up15 nwr
    have hr15 := up15.get (k14.get hres) (fun q => by have := hw12; rw [← q, hres] at this; cases this)
    refine Tn ?_;refine Xc fun uu uu => ?_;refine Ex.kexpr ?_
    refine Ev.kmethod (id := "list.append") PySem.F.plainAttrs_list PySem.F.slot_list_append PySem.F.type_list_append ?_
    skip
    refine Em v3 ?_
    refine ⟨OnT.list hob15,?_⟩
    refine Ea ?_;refine Ek ?_;refine Ea ?_;refine En ?_;refine Ea ?_
    refine Em v1 ?_
    refine Eo ?_
    refine cal_mvmonic D hr15 okr fun km H16 l16 hkm h16 => ?_
    refine Eo ?_
    refine Cal.append (l16.get hob15) (by rw [lb]; lia) ?_
    have eb: brs.map V.ref ++ [.ref km] = (brs ++ [km]).map V.ref := by simp
    rw [eb]
    have up17: HUp bl H16 (H16.set bl (.list ((brs ++ [km]).map V.ref))) := HUp.set _ _ _
    have h17: (H16.set bl (.list ((brs ++ [km]).map V.ref))).o bl = some (.list ((brs ++ [km]).map V.ref)) := MH.set_self ..
    revert up17 h17
    refine gen_ (H16.set bl (.list ((brs ++ [km]).map V.ref))) ?_
    intro H17 up17 h17
    have hle17: HLe H H17 := HUp.le (hle15.trans l16) nbl up17
    have kmb: bl ∉ brs ++ [km] := fun q => by
     rcases List.mem_append.mp q with q | q
     ·obtain ⟨j, hj⟩ := List.getElem?_of_mem q
      obtain ⟨pp, uu, e⟩ := opl15.get hj
      rw [hob15] at e; cases e
     ·rw [List.mem_singleton] at q
      rw [← q, hob15] at hkm; exact snF hkm
    have opl17: PList H17 (brs ++ [km]) (st.basis ++ [monicP o fin.rest]) := ((opl15.le l16).append (.cons h16 .nil)).up up17 kmb
    have hol17 := up17.get (l16.get hol15) (Ne.symm bll)
    have how17 := up17.get (l16.get h15) w2b
    have hr17 := up17.get (l16.get hr15) (fun q => by have := hob15; rw [← q, hr15] at this; cases this)
    refine Tn ?_;refine Xc fun uu uu => ?_;refine Ex.kexpr ?_
    refine Ev.kmethod (id := "list.append") PySem.F.plainAttrs_list PySem.F.slot_list_append PySem.F.type_list_append ?_
    skip
    refine Em v4 ?_
    refine ⟨OnT.list hol17,?_⟩
    refine Ea ?_;refine Eb ?_;refine Ek ?_;refine Ea ?_;refine En ?_;refine Ea ?_
    refine Em v1 ?_
    refine Eo ?_
    refine cal_mvlead D hr17 okr.wf.1 fun H18 l18 => ?_
    rw [hlr]
    simp only [leadV]
    refine Ei ?_;refine Iu ?_;refine Eo ?_
    refine Cal.append (l18.get hol17) (by rw [List.length_map]; lia) ?_
    have el: st.leads.map MV ++ [MV lr.1] = (st.leads ++ [lr.1]).map MV := by simp
    rw [el]
    have up19: HUp ll H18 (H18.set ll (.list ((st.leads ++ [lr.1]).map MV))) := HUp.set _ _ _
    have h19: (H18.set ll (.list ((st.leads ++ [lr.1]).map MV))).o ll = some (.list ((st.leads ++ [lr.1]).map MV)) := MH.set_self ..
    revert up19 h19
    refine gen_ (H18.set ll (.list ((st.leads ++ [lr.1]).map MV))) ?_
    intro H19 up19 h19
    have llr: ll ∉ brs ++ [km] := fun q => by
     obtain ⟨j, hj⟩ := List.getElem?_of_mem q
     obtain ⟨pp, uu, e⟩ := opl17.get hj
     rw [hol17] at e; cases e
    refine Tn ?_;refine Xo ?_;refine Tn ?_;refine Xo ?_
    refine Lp.next (by assumption) ?_;refine ⟨n', hn', _, brs ++ [km], wl2, run', HUp.le (hle17.trans l18) nll up19, v1, v2, v3, v4, rfl, rfl, up19.get (l18.get h17) bll, (opl17.le l18).up up19 llr, fun r hr => ?_, h19, up19.get (l18.get how17) w2l, w2b, w2l, nwl2,?_,?_,?_,?_, fun q hq => ?_⟩
    ·rcases List.mem_append.mp hr with hr | hr
     ·exact o3 r hr
     ·rw [List.mem_singleton] at hr; rw [hr]; exact hle15.none hkm
    ·show (st.leads ++ [lr.1]).length = (st.basis ++ [_]).length
     simp [b1]
    ·show (st.basis ++ [_]).length ≤ 100 + (st.done + 1)
     simp; lia
    ·show st.done + 1 ≤ most; lia
    ·show (rem1 st.waiting p ++ pairsTo st.basis.length).length ≤ 20000 + 300 * (st.done + 1)
     rw [List.length_append, pairsTo_length]; lia
    ·show q.1 < (st.leads ++ [lr.1]).length ∧ q.2 < (st.leads ++ [lr.1]).length
     rw [List.length_append, List.length_singleton]
     rcases List.mem_append.mp hq with hq | hq
     ·obtain ⟨a1, a2⟩ := iw q hq; lia
     ·obtain ⟨a1, a2⟩ := mem_pairsTo hq; lia
  ·refine iteT (by simp; lia) ?_
   refine Xc fun uu uu => ?_
   refine Ex.raise D ?_ (by decide)
   exact hx (run.at_limit hlp hnd hmd) _ hle10
end

section
variable {w: World} {B: Heap} {env: Env} {d: Nat} {ρ: Rho} {H: MH}
variable {Q: V → MH → Prop} {X: MH → Prop}
set_option maxHeartbeats 2000000
inductive I42b (H2: MH) (o: Od) (gl: Addr) (i: Nat) (ρ': Rho) (H': MH): Prop
 | mk (c1: HLe H2 H') (c2: ρ' "order" = some (oV o)) (c3: ρ' "good" = some (.ref gl))
inductive I42a (H: MH) (ps: List Po) (i: Nat) (ys: List V) (H': MH): Prop
 | mk (c1: HLe H H') (grs: List Addr) (c2: ys = grs.map V.ref) (c3: PList H' grs (good (ps.take i)))
theorem cal_is_basis (D: Wd w B) {o: Od} {l: Addr} {rs: List Addr} {ps: List Po} (hl: H.o l = some (.list (rs.map V.ref))) (hp: PList H rs ps) (hlen: ps.length ≤ 100) (ok: ∀ p ∈ ps, p.length ≤ 100000)
  (hd: ∀ (i j: Nat) (f g: Po), j < i → (good ps)[i]? = some f → (good ps)[j]? = some g → ∃ fin, SpRed o (good ps) f g fin ∧ fin.rest = [])
  (h: ∀ H', HLe H H' → Q (.bool true) H') :
  Cal w B (d + 9) (.ref 250) [.ref l, oV o] H Q := by
 have hpl := hp.length
 refine Cal.enter (names := ["some", "order"]) D rfl rfl (by exact len2 fun uu uu => rfl) (by decide) rfl (by decide) fun L => ?_
 refine Xc fun uu uu => ?_
 refine Ex.klca ?_
 refine Its.kof ?_
 refine En ?_
 refine ⟨_, _, Itb.list hl, I42a H ps, hl, ⟨HLe.refl _, [], rfl, .nil⟩, by simp; lia,?_,?_⟩
 ·rintro L i x ys H' hx uu ⟨hle, grs, rfl, hg⟩
  obtain ⟨r1, hr1, rfl⟩ := rs_get hx
  obtain ⟨p, hpi, hrp⟩ := hp.get hr1
  have hll := ok p (List.mem_of_getElem? hpi)
  refine ⟨_, AsgL.name rfl, by repeat first | exact sub_inner | refine sub_set rfl ?_,?_⟩
  unfold If1
  dsimp only [TB, TE]
  refine Tk ?_ (by with_unfolding_all rfl)
  refine Ev.kcall_bi ?_;refine Ea ?_;refine En ?_;refine Eo ?_
  refine Cal.len_poly (hle.get hrp) ?_ (by rw [eP_length]; lia)
  refine Ei ?_;refine Cmp.gt_int ?_;refine ⟨_, rfl,?_⟩
  have eg: good (ps.take (i + 1)) = good (ps.take i) ++ (if p = [] then [] else [p]) := by
   rw [take_succ_get hpi]; unfold good; rw [List.filter_append]; congr 1
   by_cases e: p = [] <;> simp [e]
  by_cases e: p = []
  ·refine iteF (by rw [e]; decide) ⟨hle.get hl, hle, grs, rfl,?_⟩
   rw [eg, if_pos e, List.append_nil]; exact hg
  ·refine iteT (by rw [eP_length]; have := List.length_pos_iff.mpr e; simpa using this) ?_
   refine En ?_
   refine ⟨hle.get hl, hle, grs ++ [r1], by simp,?_⟩
   rw [eg, if_neg e]
   exact hg.append (.cons (hle.get hrp) .nil)
 rintro ys H1 uu ⟨l1, grs, rfl, hg⟩ gl hgl
 have hg': PList H1 grs (good ps) := by
  have e: ps.take (rs.map V.ref).length = ps := by rw [List.length_map, hpl, List.take_length]
  rw [e] at hg; exact hg
 have l2: HLe H (H1.set gl (.list (grs.map V.ref))) := l1.trans (HLe.new hgl _)
 have hg2 := hg'.le (HLe.new hgl (.list (grs.map V.ref)))
 have hgl2: (H1.set gl (.list (grs.map V.ref))).o gl = some (.list (grs.map V.ref)) := MH.set_self ..
 have lgood: (good ps).length ≤ ps.length := List.length_filter_le ..
 have lgrs := hg2.length
 revert l2 hg2 hgl2
 refine gen_ (H1.set gl (.list (grs.map V.ref))) ?_
 intro H2 l2 hg2 hgl2
 clear hg hg' hgl l1
 refine Tn ?_
 refine Xc fun uu uu => ?_
 refine Ex.forB ?_ (by intro uu; rfl)
 refine Its.kenum ?_
 refine En ?_
 refine Or.inl ⟨_, _, rfl, hgl2, I42b H2 o gl, hgl2, ⟨HLe.refl _, rfl, rfl⟩,?_,?_⟩
 ·rintro i x ρ' H' hx uu ⟨hle, v1, v2⟩
  obtain ⟨y, hy, rfl⟩ := enumV_get' hx
  obtain ⟨r1, hr1, rfl⟩ := rs_get hy
  obtain ⟨f, hf, hof⟩ := hg2.get hr1
  have hi := (List.getElem?_eq_some_iff.mp hf).1
  refine ⟨_, Asg.pair (.inl rfl) (.inl rfl),?_⟩
  refine (fun (uu: Post) (uu: PLe _ _) => ?_)
  refine Xc fun uu uu => ?_
  refine Ex.forB (Its.kof (Ev.list_upto ?_)) (by intro uu; rfl)
  refine Em v2 ?_
  refine En ?_
  refine ⟨gl, _, i, rfl, rfl, hle.get hgl2, by rw [List.length_map]; lia, fun sl hsl => ?_⟩
  have l3: HLe H' (H'.set sl (.list ((grs.map V.ref).take i))) := HLe.new hsl _
  have hsl3: (H'.set sl (.list ((grs.map V.ref).take i))).o sl = some (.list ((grs.map V.ref).take i)) := MH.set_self ..
  revert l3 hsl3
  refine gen_ (H'.set sl (.list ((grs.map V.ref).take i))) ?_
  intro H3 l3 hsl3
  refine ⟨_, _, Itb.list hsl3, fun j ρ2 H'' => HLe H3 H'' ∧ ρ2 "order" = some (oV o) ∧ ρ2 "good" = some (.ref gl) ∧ ρ2 "one" = some (.ref r1), hsl3, ⟨HLe.refl _, v1, v2, rfl⟩,?_,?_⟩
  ·rintro j x ρ2 H4 hx uu ⟨hle4, u1, u2, u3⟩
   have hj: j < i := by
    have := (List.getElem?_eq_some_iff.mp hx).1
    rw [List.length_take] at this; lia
   rw [List.getElem?_take_of_lt hj] at hx
   obtain ⟨r2, hr2, rfl⟩ := rs_get hx
   obtain ⟨g, hgg, hog⟩ := hg2.get hr2
   obtain ⟨fin, ⟨lf, lg, hlf, hlg, okf, okg, ok1, ok2, hdiv⟩, hres⟩ := hd i j f g hj hf hgg
   have h24 := (hle.trans l3).trans hle4
   refine ⟨_, Asg.name (.inl rfl),?_⟩
   refine (fun (uu: Post) (uu: PLe _ _) => ?_); refine Xc fun uu uu => ?_;refine Xi ?_;refine Tk ?_;refine Ev.kcall_bi ?_;refine Ea ?_;refine Ek ?_;refine Ea ?_;refine Ek ?_;refine Ea ?_
   refine Em u3 ?_
   refine Ea ?_;refine En ?_;refine Ea ?_
   refine Em u1 ?_
   refine Eo ?_
   refine cal_s_poly D (h24.get hof) (h24.get hog) okf okg hlf hlg ok1 ok2 fun k H5 l5 hk hsp => ?_
   refine Ea ?_
   refine Em u2 ?_
   refine Ea ?_
   refine Em u1 ?_
   refine Eo ?_
   have h25 := h24.trans l5
   refine cal_rest_of D hsp (h25.get hgl2) (hg2.le h25) (by lia) hdiv fun r0 H6 l6 hr0 hr6 => ?_
   refine Eo ?_
   refine Cal.len_poly hr6 ?_ (by rw [hres]; decide)
   refine Ei ?_;refine Cmp.gt_int ?_;refine ⟨_, rfl,?_⟩
   refine iteF (by rw [hres]; decide) ?_
   refine Xo ?_;refine Tn ?_;refine Xo ?_
   refine Lp.next (by assumption) ?_; exact ⟨((hle4.trans l5).trans l6).get hsl3, (hle4.trans l5).trans l6, u1, u2, u3⟩
  ·rintro ρ2 H4 uu ⟨hle4, u1, u2, u3⟩
   refine Tn ?_;refine Xo ?_
   refine Lp.next (by assumption) ?_; exact ⟨((hle.trans l3).trans hle4).get hgl2, (hle.trans l3).trans hle4, u1, u2⟩
 ·rintro ρ' H' uu ⟨hle, v1, v2⟩
  refine Tn ?_;refine Xc fun uu uu => ?_;refine Xr ?_;refine Ev.const_bool ?_;refine Tq ?_
  exact h H' (l2.trans hle)
end

section
variable {w: World} {B: Heap} {env: Env} {d: Nat} {ρ: Rho} {H: MH}
variable {Q: V → MH → Prop} {X: MH → Prop}
set_option maxHeartbeats 2000000
theorem get2 {α: Type} {x y: α} {i: Nat} {z: α} (h: [x, y][i]? = some z): (i = 0 ∧ z = x) ∨ (i = 1 ∧ z = y) := by
 rcases i with uu | uu | i
 ·simp at h; exact .inl ⟨rfl, h.symm⟩
 ·simp at h; exact .inr ⟨rfl, h.symm⟩
 ·simp at h
theorem get3 {α: Type} {x y u: α} {i: Nat} {z: α} (h: [x, y, u][i]? = some z): (i = 0 ∧ z = x) ∨ (i = 1 ∧ z = y) ∨ (i = 2 ∧ z = u) := by
 rcases i with uu | uu | uu | i
 ·simp at h; exact .inl ⟨rfl, h.symm⟩
 ·simp at h; exact .inr (.inl ⟨rfl, h.symm⟩)
 ·simp at h; exact .inr (.inr ⟨rfl, h.symm⟩)
 ·simp at h
theorem mdiv_refl (m: Mo): mdiv m m = true := by simp [mdiv]
inductive I43 (H: MH) (g fl ll kl: Addr) (m: Mo) (i: Nat) (ρ': Rho) (H': MH): Prop
 | mk (c1: HLe H H') (c2: H'.o fl = some (.list [.ref g, .ref g])) (c3: H'.o ll = some (.list [MV m, MV m])) (c4: H'.o kl = some (.list (if i = 0 then [] else [.ref g]))) (c5: ρ' "leads" = some (.ref ll)) (c6: ρ' "found" = some (.ref fl)) (c7: ρ' "kept" = some (.ref kl))
theorem cal_minimal_basis (D: Wd w B) {o: Od} {l g e: Addr} {p: Po} {lp: Mo × Rat} (hl: H.o l = some (.list [.ref g, .ref e, .ref g])) (hg: H.o g = some (.poly (eP p))) (he: H.o e = some (.poly (eP []))) (hlp: lead o p = some lp)
  (hn: (p.map (·.1)).Nodup) (hlen: p.length ≤ 100000) (h: ∀ n H', HLe H H' → H.o n = none → H'.o n = some (.list [.ref g]) → Q (.ref n) H') :
  Cal w B (d + 9) (.ref 255) [.ref l, oV o] H Q := by
 have pne: p ≠ [] := fun q => by rw [q] at hlp; cases hlp
 refine Cal.enter (names := ["basis", "order"]) D rfl rfl (by exact len2 fun uu uu => rfl) (by decide) rfl (by decide) fun L => ?_
 refine Xc fun uu uu => ?_
 refine Ex.klca ?_
 refine Its.kof ?_
 refine En ?_
 refine ⟨_, _, Itb.list hl, CompL.acc (fun i => match i with | 0 => [] | 1 => [.ref g] | 2 => [.ref g] | _ => [.ref g, .ref g]) rfl (fun H' hle => hle.get hl) (by simp) (fun L i x H' hx hle => ?_) fun H1 l1 fl hfl => ?_⟩
 ·refine ⟨_, AsgL.name rfl, by repeat first | exact sub_inner | refine sub_set rfl ?_,?_⟩
  unfold If1
  dsimp only [TB, TE]
  refine Tk ?_ (by with_unfolding_all rfl)
  refine Ev.kcall_bi ?_;refine Ea ?_;refine En ?_;refine Eo ?_
  rcases get3 hx with ⟨rfl, rfl⟩ | ⟨rfl, rfl⟩ | ⟨rfl, rfl⟩
  ·refine Cal.len_poly (hle.get hg) ?_ (by rw [eP_length]; lia)
   refine Ei ?_;refine Cmp.gt_int ?_;refine ⟨_, rfl,?_⟩
   refine iteT (by rw [eP_length]; have := List.length_pos_iff.mpr pne; simpa using this) ?_
   refine En ?_
   exact ⟨hle, rfl⟩
  ·refine Cal.len_poly (hle.get he) ?_ (by decide)
   refine Ei ?_;refine Cmp.gt_int ?_;refine ⟨_, rfl,?_⟩
   exact iteF (by decide) ⟨hle, rfl⟩
  ·refine Cal.len_poly (hle.get hg) ?_ (by rw [eP_length]; lia)
   refine Ei ?_;refine Cmp.gt_int ?_;refine ⟨_, rfl,?_⟩
   refine iteT (by rw [eP_length]; have := List.length_pos_iff.mpr pne; simpa using this) ?_
   refine En ?_
   exact ⟨hle, rfl⟩
 dsimp only [List.length_cons, List.length_nil] at *
 have l2: HLe H (H1.set fl (.list [.ref g, .ref g])) := l1.trans (HLe.new hfl _)
 have hfl2: (H1.set fl (.list [.ref g, .ref g])).o fl = some (.list [.ref g, .ref g]) := MH.set_self ..
 refine asH (H1.set fl (.list [.ref g, .ref g])) ?_ rfl
 revert l2 hfl2
 refine gen_ (H1.set fl (.list [.ref g, .ref g])) ?_
 intro H2 l2 hfl2
 refine Tn ?_
 refine Xc fun uu uu => ?_
 refine Ex.klca ?_
 refine Its.kof ?_
 refine En ?_
 refine ⟨_, _, Itb.list hfl2, CompL.map (zs := [MV lp.1, MV lp.1]) rfl (fun H' hle => hle.get hfl2) (by simp) (fun L i x H' hx hle => ?_) fun H3 l3 ll hll => ?_⟩
 ·have ex: x = .ref g ∧ ([MV lp.1, MV lp.1]: List V)[i]? = some (MV lp.1) := by rcases get2 hx with ⟨rfl, rfl⟩ | ⟨rfl, rfl⟩ <;> exact ⟨rfl, rfl⟩
  obtain ⟨rfl, ez⟩ := ex
  refine ⟨_, AsgL.name rfl, by repeat first | exact sub_inner | refine sub_set rfl ?_,?_⟩
  refine Eb ?_;refine Ek ?_;refine Ea ?_;refine En ?_;refine Ea ?_;refine En ?_;refine Eo ?_
  refine cal_mvlead D (hle.get (l2.get hg)) hn fun H4 l4 => ?_
  rw [hlp]
  simp only [leadV]
  refine Ei ?_;refine Iu ?_
  exact ⟨hle.trans l4, ez⟩
 have l4: HLe H (H3.set ll (.list [MV lp.1, MV lp.1])) := (l2.trans l3).trans (HLe.new hll _)
 have k4: HLe H2 (H3.set ll (.list [MV lp.1, MV lp.1])) := l3.trans (HLe.new hll _)
 have hll4: (H3.set ll (.list [MV lp.1, MV lp.1])).o ll = some (.list [MV lp.1, MV lp.1]) := MH.set_self ..
 revert l4 k4 hll4
 refine gen_ (H3.set ll (.list [MV lp.1, MV lp.1])) ?_
 intro H4 l4 k4 hll4
 refine Tn ?_;refine Xc fun uu uu => ?_;refine Xa ?_;refine Eh ?_;refine Eo ?_
 intro kl hkl
 have nkl: H.o kl = none := l4.none hkl
 have l5: HLe H (H4.set kl (.list [])) := l4.trans (HLe.new hkl _)
 have k5: HLe H4 (H4.set kl (.list [])) := HLe.new hkl _
 have hkl5: (H4.set kl (.list [])).o kl = some (.list []) := MH.set_self ..
 have klf: kl ≠ fl := fun q => by have := k4.get hfl2; rw [← q, hkl] at this; cases this
 have kll: kl ≠ ll := fun q => by rw [q, hll4] at hkl; cases hkl
 revert l5 k5 hkl5
 refine gen_ (H4.set kl (.list [])) ?_
 intro H5 l5 k5 hkl5
 refine Tn ?_;refine Xc fun uu uu => ?_
 refine Ex.forB ?_ (by intro uu; rfl)
 refine Its.kenum ?_
 refine En ?_
 refine Or.inl ⟨_, _, rfl, k5.get hll4, I43 H g fl ll kl lp.1, k5.get hll4, ⟨l5, (k4.trans k5).get hfl2, k5.get hll4, hkl5, rfl, rfl, rfl⟩,?_,?_⟩
 ·rintro i x ρ' H' hx hll' ⟨hle, o1, o2, o3, v1, v2, v3⟩
  obtain ⟨y, hy, rfl⟩ := enumV_get' hx
  have hi: i < 2 ∧ y = MV lp.1 := by rcases get2 hy with ⟨rfl, rfl⟩ | ⟨rfl, rfl⟩ <;> exact ⟨by decide, rfl⟩
  obtain ⟨hi, rfl⟩ := hi
  refine ⟨_, Asg.pair (.inl rfl) (.inr ⟨rfl, rfl⟩),?_⟩
  refine (fun (uu: Post) (uu: PLe _ _) => ?_); refine Xc fun uu uu => ?_;refine Xa ?_;refine Eg ?_
  refine Ev.list_upto ?_
  refine Em v1 ?_
  refine En ?_
  refine ⟨ll, _, i, rfl, rfl, o2, by simp, fun s1 hs1 => ?_⟩
  have l6: HLe H' (H'.set s1 (.list ([MV lp.1, MV lp.1].take i))) := HLe.new hs1 _
  have h61: (H'.set s1 (.list ([MV lp.1, MV lp.1].take i))).o s1 = some (.list ([MV lp.1, MV lp.1].take i)) := MH.set_self ..
  revert l6 h61
  refine gen_ (H'.set s1 (.list ([MV lp.1, MV lp.1].take i))) ?_
  intro H6 l6 h61
  skip
  refine Ev.klc ?_
  refine Its.kof ?_
  refine Ev.list_from ?_
  refine Em v1 ?_
  refine Eg ?_;refine En ?_;refine Ei ?_;refine Bin.add_int ?_
  refine ⟨ll, _, i + 1, rfl, rfl, l6.get o2, by simp; lia, by simp, fun s2 hs2 => ?_⟩
  have l7: HLe H6 (H6.set s2 (.list ([MV lp.1, MV lp.1].drop (i + 1)))) := HLe.new hs2 _
  have h72: (H6.set s2 (.list ([MV lp.1, MV lp.1].drop (i + 1)))).o s2 = some (.list ([MV lp.1, MV lp.1].drop (i + 1))) := MH.set_self ..
  revert l7 h72
  refine gen_ (H6.set s2 (.list ([MV lp.1, MV lp.1].drop (i + 1)))) ?_
  intro H7 l7 h72
  refine ⟨_, _, Itb.list h72, CompL.acc (fun uu => []) rfl (fun H' hle => hle.get h72) (by rw [List.length_drop]; simp; lia) (fun L j x H'' hx hle7 => ?_) fun H8 l8 s3 hs3 => ?_⟩
  ·have ex: x = MV lp.1 := by
    rw [List.getElem?_drop] at hx
    rcases get2 hx with ⟨uu, q⟩ | ⟨uu, q⟩ <;> exact q
   subst ex
   refine ⟨_, AsgL.name rfl, by repeat first | exact sub_inner | refine sub_set rfl ?_,?_⟩
   unfold If1
   dsimp only [TB, TE]
   refine Tk ?_ (by with_unfolding_all rfl)
   refine En ?_;refine En ?_
   refine Cmp.ne (keyV_eq .lex lp.1 lp.1) ?_
   refine ⟨_, rfl,?_⟩
   exact iteF (by simp) ⟨hle7, rfl⟩
  have l9: HLe H7 (H8.set s3 (.list [])) := l8.trans (HLe.new hs3 _)
  have h93: (H8.set s3 (.list [])).o s3 = some (.list []) := MH.set_self ..
  revert l9 h93
  refine gen_ (H8.set s3 (.list [])) ?_
  intro H9 l9 h93
  have l69 := l7.trans l9
  refine Bin.add_list (l69.get h61) h93 (by simp; lia) fun s4 hs4 => ?_
  rw [List.append_nil]
  have l10: HLe H9 (H9.set s4 (.list ([MV lp.1, MV lp.1].take i))) := HLe.new hs4 _
  have h10: (H9.set s4 (.list ([MV lp.1, MV lp.1].take i))).o s4 = some (.list (([lp.1, lp.1].take i).map MV)) := by rw [MH.set_self, List.map_take]; rfl
  revert l10 h10
  refine gen_ (H9.set s4 (.list ([MV lp.1, MV lp.1].take i))) ?_
  intro H10 l10 h10
  have l610 := (l6.trans l69).trans l10
  refine Tn ?_;refine Xc fun uu uu => ?_;refine Xi ?_;refine Ts.knot ?_
  refine Ts.kval ?_ (by intro uu; rfl)
  refine Ek ?_;refine Ea ?_;refine En ?_;refine Ea ?_;refine En ?_;refine Eo ?_
  refine cal_is_divided D h10 (by simp; lia) fun H11 l11 => ?_
  have l611 := l610.trans l11
  refine Tt.bool ?_
  rcases get2 hy with ⟨rfl, uu⟩ | ⟨rfl, uu⟩
  ·have e0: fstDiv lp.1 (([lp.1, lp.1].take 0).map fun x => some (x, (1: Rat))) = none := rfl
   rw [e0]
   refine iteT rfl ?_
   refine Xc fun uu uu => ?_
   refine Ex.kexpr ?_
   refine Ev.kmethod (id := "list.append") PySem.F.plainAttrs_list PySem.F.slot_list_append PySem.F.type_list_append ?_
   refine Em v3 ?_
   have o3': H11.o kl = some (.list []) := l611.get o3
   refine ⟨OnT.list o3',?_⟩
   refine Ea ?_;refine Eb ?_
   refine Em v2 ?_
   refine En ?_
   refine Iti.list (l611.get o1) (by decide) (by decide) rfl ?_
   refine Eo ?_
   refine Cal.append o3' (by decide) ?_
   have up: HUp kl H11 (H11.set kl (.list [.ref g])) := HUp.set _ _ _
   have hk: (H11.set kl (.list [.ref g])).o kl = some (.list [.ref g]) := MH.set_self ..
   refine asH (H11.set kl (.list [.ref g])) ?_ rfl
   revert up hk
   refine gen_ (H11.set kl (.list [.ref g])) ?_
   intro H12 up hk
   have hl12 := up.get (l611.get o2) (Ne.symm kll)
   refine Tn ?_;refine Xo ?_;refine Tn ?_;refine Xo ?_
   refine Lp.next (by assumption) ?_; exact ⟨hl12, HUp.le (hle.trans l611) nkl up, up.get (l611.get o1) (Ne.symm klf), hl12, hk, v1, v2, v3⟩
  ·have e1: fstDiv lp.1 (([lp.1, lp.1].take 1).map fun x => some (x, (1: Rat))) = some 0 := by
    show List.findIdx? (hits lp.1) [some (lp.1, 1)] = some 0
    simp [List.findIdx?_cons, hits, mdiv_refl]
   rw [e1]
   refine iteF (by decide) ?_
   refine Xo ?_;refine Tn ?_;refine Xo ?_
   refine Lp.next (by assumption) ?_; exact ⟨l611.get o2, hle.trans l611, l611.get o1, l611.get o2, l611.get o3, v1, v2, v3⟩
 ·rintro ρ' H' uu ⟨hle, o1, o2, o3, v1, v2, v3⟩
  refine Tn ?_;refine Xc fun uu uu => ?_;refine Xr ?_
  refine Em v3 ?_
  refine Tq ?_
  exact h kl H' hle nkl o3
end

section
variable {w: World} {B: Heap} {env: Env} {d: Nat} {ρ: Rho} {H: MH}
variable {Q: V → MH → Prop} {X: MH → Prop}
set_option maxHeartbeats 2000000
inductive I44 (H: MH) (ql: Addr) (qs ss: List Po) (i: Nat) (ρ': Rho) (H': MH): Prop
 | mk (c1: HLe H H') (c2: ρ' "quotients" = some (.ref ql)) (n: Addr) (c3: ρ' "found" = some (.ref n)) (c4: H.o n = none) (c5: H'.o n = some (.poly (eP (sumTo qs ss i))))
theorem cal_sum_of_products (D: Wd w B) {ql sl: Addr} {rq rs: List Addr} {qs ss: List Po} (hql: H.o ql = some (.list (rq.map V.ref))) (hsl: H.o sl = some (.list (rs.map V.ref))) (hq: PList H rq qs) (hs: PList H rs ss) (hlen: ss.length ≤ 100) (hl2: qs.length = ss.length)
  (ok: ∀ i q s, qs[i]? = some q → ss[i]? = some s → MulOk q s ∧ OkP (sumTo qs ss i) ∧ OkP (mulP q s))
  (h: ∀ n H', HLe H H' → H.o n = none → H'.o n = some (.poly (eP (sumTo qs ss ss.length))) → Q (.ref n) H'): Cal w B (d + 6) (.ref 262) [.ref ql, .ref sl] H Q := by
 refine Cal.enter (names := ["quotients", "some"]) D rfl rfl (by exact len2 fun uu uu => rfl) (by decide) rfl (by decide) fun L => ?_
 refine Xc fun uu uu => ?_;refine Xa ?_
 with_reducible refine Ev.dict0 fun n0 hn0 => ?_
 have l1: HLe H (H.set n0 (.poly [])) := HLe.new hn0 _
 have h1: (H.set n0 (.poly [])).o n0 = some (.poly (eP [])) := MH.set_self ..
 revert l1 h1
 refine gen_ (H.set n0 (.poly [])) ?_
 intro H1 l1 h1
 refine Tn ?_;refine Xc fun uu uu => ?_
 refine Ex.forB ?_ (by intro uu; rfl)
 refine Its.kenum ?_
 refine En ?_
 refine Or.inl ⟨_, _, rfl, l1.get hsl, I44 H ql qs ss, l1.get hsl, ⟨l1, rfl, n0, rfl, hn0, h1⟩,?_,?_⟩
 ·rintro i x ρ' H' hx hsl' ⟨hle, v1, n, v2, hn, hn'⟩
  obtain ⟨y, hy, rfl⟩ := enumV_get' hx
  obtain ⟨r1, hr1, rfl⟩ := rs_get hy
  obtain ⟨s1, hs1, hos⟩ := hs.get hr1
  have hi := (List.getElem?_eq_some_iff.mp hs1).1
  obtain ⟨q1, hq1⟩: ∃ q1, qs[i]? = some q1 := ⟨_, List.getElem?_eq_getElem (by lia)⟩
  obtain ⟨r2, hr2, hoq⟩ := hq.get' hq1
  obtain ⟨mok, sok, pok⟩ := ok i q1 s1 hq1 hs1
  refine ⟨_, Asg.pair (.inl rfl) (.inl rfl),?_⟩
  refine (fun (uu: Post) (uu: PLe _ _) => ?_); refine Xc fun uu uu => ?_;refine Xa ?_;refine Ek ?_;refine Ea ?_
  refine Em v2 ?_
  refine Ea ?_;refine Ek ?_;refine Ea ?_;refine Eb ?_
  refine Em v1 ?_
  refine En ?_
  refine Iti.list (hle.get hql) (by lia) (by lia) (by rw [Int.toNat_natCast, List.getElem?_map, hr2]; rfl) ?_
  refine Ea ?_;refine En ?_;refine Eo ?_
  refine cal_mvmul D (hle.get hoq) (hle.get hos) mok fun k H2 l2 hk2 h2 => ?_
  refine Eo ?_
  refine cal_mvadd D (l2.get hn') h2 sok pok fun k3 H3 l3 hk3 h3 => ?_
  refine Tn ?_;refine Xo ?_
  have l23 := l2.trans l3
  refine Lp.next (by assumption) ?_;refine ⟨l23.get hsl', hle.trans l23, v1, k3, rfl, (hle.trans l2).none hk3,?_⟩
  rw [h3]
  simp only [sumTo, List.getD, hq1, hs1, Option.getD_some]
 ·rintro ρ' H' uu ⟨hle, v1, n, v2, hn, hn'⟩
  refine Tn ?_;refine Xc fun uu uu => ?_;refine Xr ?_
  refine Em v2 ?_
  refine Tq ?_
  rw [enumV_length, List.length_map, hs.length] at hn'
  exact h n H' hle hn hn'
theorem cal_law_tried (D: Wd w B) {o: Od} {l: Addr} {rs: List Addr} {ps: List Po} {most n: Nat} {r: Option (List Po)} (hl: H.o l = some (.list (rs.map V.ref))) (hp: PList H rs ps) (hlen: ps.length ≤ 100) (hmost: most ≤ 100)
  (ok: ∀ p ∈ ps, OkP p ∧ p ≠ [] ∧ ((monicP o p).map (·.1)).Nodup ∧ monicP o p ≠ [])
  (run: GRun o most n ⟨ps.map (monicP o), (ps.map (monicP o)).map (lM o), pairs0 ps.length, 0⟩ r)
  (h: ∀ G, r = some G → ∀ l' rs' H', HLe H H' → H.o l' = none → H'.o l' = some (.list (rs'.map V.ref)) → PList H' rs' G → (∀ r ∈ rs', H.o r = none) → Q (.ref l') H') (hx: r = none → ∀ H', HLe H H' → Q .none H') :
  Cal w B (d + 11) (.ref 283) [.ref l, oV o, .int most] H Q := by
 refine Cal.enter (names := ["some", "order", "most"]) D rfl rfl (by exact len3 fun uu uu uu => rfl) (by decide) rfl (by decide) fun L => ?_
 refine Xc fun uu uu => ?_
 refine Ex.try_ret D (EvX.call (d := d + 10) D rfl rfl rfl ?_ rfl rfl (by decide))
 refine Ea ?_;refine En ?_;refine Ea ?_;refine En ?_;refine Ea ?_;refine En ?_;refine Eo ?_
 exact cal_groebner D hl hp hlen hmost ok run (fun G e l' rs' H' a1 a2 a3 a4 a5 => Then.ret (by assumption) (h G e l' rs' H' a1 a2 a3 a4 a5)) (fun e H' a => Then.ret (by assumption) (hx e H' a))
end

section
variable {w: World} {B: Heap} {env: Env} {d: Nat} {ρ: Rho} {H: MH}
variable {Q: V → MH → Prop} {X: MH → Prop}
set_option maxHeartbeats 2000000
structure Box (b l: Addr) (n: Nat) (H: MH): Prop where
 ne: b ≠ l
 box: ∃ s: Int, H.o b = some (.list [.ref l, .int (n: Nat), .int s])
 lst: ∃ is: List Int, is.length ≤ 100 ∧ H.o l = some (.list (is.map V.int))
noncomputable def HBx (b l: Addr) (H H': MH): Prop := ∀ a, a ≠ b → a ≠ l → H.o a ≠ none → H'.o a = H.o a ∧ H'.ver a = H.ver a
theorem HBx.refl (b l: Addr) (H: MH): HBx b l H H := fun uu uu uu uu => ⟨rfl, rfl⟩
theorem HBx.trans {b l: Addr} {H H' H'': MH} (x: HBx b l H H') (y: HBx b l H' H''): HBx b l H H'' := fun a h1 h2 h => by
 obtain ⟨e1, e2⟩ := x a h1 h2 h
 obtain ⟨e3, e4⟩ := y a h1 h2 (by rw [e1]; exact h)
 exact ⟨e3.trans e1, e4.trans e2⟩
theorem HBx.get {b l a: Addr} {H H': MH} {mo: MO} (x: HBx b l H H') (h: H.o a = some mo) (h1: a ≠ b) (h2: a ≠ l): H'.o a = some mo := by rw [(x a h1 h2 (by rw [h]; simp)).1, h]
theorem HLe.bx {H H': MH} (x: HLe H H') (b l: Addr): HBx b l H H' := fun a uu uu h => x a h
theorem HUp.bx1 {b: Addr} {H H': MH} (x: HUp b H H') (l: Addr): HBx b l H H' := fun a h1 uu h => x a h1 h
theorem HUp.bx2 {l: Addr} {H H': MH} (x: HUp l H H') (b: Addr): HBx b l H H' := fun a uu h2 h => x a h2 h
theorem HBx.poly {b l a: Addr} {n: Nat} {H H': MH} {p: PL} (x: HBx b l H H') (bx: Box b l n H) (h: H.o a = some (.poly p)): H'.o a = some (.poly p) := by
 refine x.get h (fun q => ?_) (fun q => ?_)
 ·obtain ⟨s, e⟩ := bx.box; rw [q, e] at h; cases h
 ·obtain ⟨s, uu, e⟩ := bx.lst; rw [q, e] at h; cases h
theorem Box.le {b l: Addr} {n: Nat} {H H': MH} (x: Box b l n H) (h: HLe H H'): Box b l n H' := by
 obtain ⟨s, e⟩ := x.box
 obtain ⟨is, e1, e2⟩ := x.lst
 exact ⟨x.ne, ⟨s, h.get e⟩, ⟨is, e1, h.get e2⟩⟩
theorem Box.up {b l c: Addr} {n: Nat} {H H': MH} (x: Box b l n H) (h: HUp c H H') (hc: ∀ xs, H.o c ≠ some (.list xs)): Box b l n H' := by
 obtain ⟨s, e⟩ := x.box
 obtain ⟨is, e1, e2⟩ := x.lst
 exact ⟨x.ne, ⟨s, h.get e (fun q => hc _ (q ▸ e))⟩, ⟨is, e1, h.get e2 (fun q => hc _ (q ▸ e2))⟩⟩
theorem HBx.gone {b l: Addr} {H H': MH} (x: HBx b l H H') (hb: H.o b ≠ none) (hl: H.o l ≠ none) (hd1: H'.o b ≠ none) (hd2: H'.o l ≠ none) {a: Addr} (h: H'.o a = none): H.o a = none := by
 by_cases h1: a = b
 ·subst h1; exact absurd h hd1
 by_cases h2: a = l
 ·subst h2; exact absurd h hd2
 cases q: H.o a with
 | none => rfl
 | some mo => rw [x.get q h1 h2] at h; cases h
theorem Box.some1 {b l: Addr} {n: Nat} {H: MH} (x: Box b l n H): H.o b ≠ none := by obtain ⟨s, e⟩ := x.box; rw [e]; simp
theorem Box.some2 {b l: Addr} {n: Nat} {H: MH} (x: Box b l n H): H.o l ≠ none := by obtain ⟨s, uu, e⟩ := x.lst; rw [e]; simp
theorem small_mul {a b: Int} (ha: a.natAbs ≤ 1000) (hb: b.natAbs ≤ 1000): IntMulOk a b := mulOk (s := 10) (t := 10) (Nat.le_trans ha (by decide)) (Nat.le_trans hb (by decide)) (by decide)
theorem fmod_pos (x: Int) {k: Nat} (hk: 0 < k): ∃ j: Nat, j < k ∧ x.fmod (k: Nat) = (j: Nat) := by
 rw [Int.fmod_eq_emod_of_nonneg _ (by lia)]
 have h1 := Int.emod_nonneg x (b := (k: Nat)) (by lia)
 have h2 := Int.emod_lt_of_pos x (b := (k: Nat)) (by lia)
 exact ⟨(x % (k: Nat)).toNat, by lia, by lia⟩
theorem cal_law_take (D: Wd w B) {b l: Addr} {n k: Nat} (bx: Box b l n H) (hn: n ≤ 100) (hk: 0 < k)
  (h: ∀ (j: Nat) H', j < k → HBx b l H H' → Box b l (n + 1) H' → Q (.int (j: Nat)) H'): Cal w B (d + 2) (.ref 269) [.ref b, .int (k: Nat)] H Q := by
 obtain ⟨s, hb⟩ := bx.box
 obtain ⟨is, his, hl⟩ := bx.lst
 refine Cal.enter (names := ["box", "wide"]) D rfl rfl (by exact len2 fun uu uu => rfl) (by decide) rfl (by decide) fun L => ?_
 refine Xc fun uu uu => ?_
 refine Ex.kassign_sub ?_
 refine Eg ?_;refine Eb ?_;refine En ?_;refine Ei ?_
 refine Iti.list hb (by decide) (by decide) rfl ?_
 refine Ei ?_;refine Bin.add_int ?_;refine En ?_;refine Ei ?_
 refine Or.inl ⟨b, _, 1, rfl, hb, rfl, by simp, by decide,?_⟩
 have up1: HUp b H (H.set b (.list [.ref l, .int (n + 1: Nat), .int s])) := HUp.set _ _ _
 have h1: (H.set b (.list [.ref l, .int (n + 1: Nat), .int s])).o b = some (.list [.ref l, .int (n + 1: Nat), .int s]) := MH.set_self ..
 refine asH (H.set b (.list [.ref l, .int (n + 1: Nat), .int s])) ?_ rfl
 revert up1 h1
 refine gen_ (H.set b (.list [.ref l, .int (n + 1: Nat), .int s])) ?_
 intro H1 up1 h1
 have hl1 := up1.get hl (Ne.symm bx.ne)
 refine Tn ?_;refine Xc fun uu uu => ?_;refine Xi ?_;refine Tk ?_;refine Ev.kcall_bi ?_;refine Ea ?_;refine Eb ?_;refine En ?_;refine Ei ?_
 refine Iti.list h1 (by decide) (by decide) rfl ?_
 refine Eo ?_
 refine Cal.len_list hl1 ?_ (by rw [List.length_map]; lia)
 refine Ei ?_;refine Cmp.gt_int ?_;refine ⟨_, rfl,?_⟩
 cases is with
 | cons i is =>
  refine iteT (by simp) ?_
  refine Xc fun uu uu => ?_;refine Xr ?_;refine Eg ?_;refine Ev.kcall_bi ?_;refine Ea ?_
  refine Ev.kmethod (id := "list.pop") PySem.F.plainAttrs_list PySem.F.slot_list_pop PySem.F.type_list_pop ?_
  refine Eb ?_;refine En ?_;refine Ei ?_
  refine Iti.list h1 (by decide) (by decide) rfl ?_
  refine ⟨OnT.list hl1,?_⟩
  refine Ea ?_;refine Ei ?_;refine Eo ?_
  refine Cal.pop0 hl1 (by simp at his ⊢; lia) ?_
  have up2: HUp l H1 (H1.set l (.list (is.map V.int))) := HUp.set _ _ _
  have h2: (H1.set l (.list (is.map V.int))).o l = some (.list (is.map V.int)) := MH.set_self ..
  revert up2 h2
  refine gen_ (H1.set l (.list (is.map V.int))) ?_
  intro H2 up2 h2
  refine Eo ?_;refine Cal.abs ?_;refine En ?_
  refine Bin.mod_int (by lia) ?_
  refine Tq ?_;refine Tq ?_
  obtain ⟨j, hj, e⟩ := fmod_pos (if i < 0 then -i else i) hk
  rw [e]
  refine h j H2 hj ((up1.bx1 l).trans (up2.bx2 b)) ⟨bx.ne, ⟨s, up2.get h1 bx.ne⟩, is, by simp at his; lia, h2⟩
 | nil =>
  refine iteF (by simp) ?_
  refine Xo ?_;refine Tn ?_;refine Xc fun uu uu => ?_;refine Xr ?_;refine Eg ?_;refine Eg ?_;refine Eg ?_;refine Eg ?_;refine Ei ?_;refine Eb ?_;refine En ?_;refine Ei ?_
  refine Iti.list h1 (by decide) (by decide) rfl ?_
  refine Bin.mul_int (small_mul (by decide) (by lia)) ?_
  refine Eg ?_;refine Eg ?_;refine Eb ?_;refine En ?_;refine Ei ?_
  refine Iti.list h1 (by decide) (by decide) rfl ?_
  refine Eb ?_;refine En ?_;refine Ei ?_
  refine Iti.list h1 (by decide) (by decide) rfl ?_
  refine Bin.mul_int (small_mul (by lia) (by lia)) ?_
  refine Ei ?_
  refine Bin.fdiv_room D (by decide) ?_
  refine Bin.add_int ?_;refine Eb ?_;refine En ?_;refine Ei ?_
  refine Iti.list h1 (by decide) (by decide) rfl ?_
  refine Bin.add_int ?_;refine En ?_
  refine Bin.mod_int (by lia) ?_
  refine Tq ?_
  refine gen_ ((7 * ((n + 1: Nat): Int) + (((n + 1: Nat): Int) * ((n + 1: Nat): Int)).fdiv 3 + s)) ?_
  intro x
  obtain ⟨j, hj, e⟩ := fmod_pos x hk
  show Q (.int (x.fmod (k: Nat))) H1
  rw [e]
  exact h j H1 hj (up1.bx1 l) ⟨bx.ne, ⟨s, h1⟩, [], by simp, hl1⟩
end
section
variable {w: World} {B: Heap} {env: Env} {d: Nat} {ρ: Rho} {H: MH}
variable {Q: V → MH → Prop} {X: MH → Prop}
set_option maxHeartbeats 2000000
theorem cal_law_poly (D: Wd w B) {b l: Addr} {n: Nat} (bx: Box b l n H) (hn: n ≤ 80)
  (h: ∀ r p n' H', StartP p → n' ≤ n + 6 → HBx b l H H' → Box b l n' H' → H.o r = none → H'.o r = some (.poly (eP p)) → Q (.ref r) H'): Cal w B (d + 3) (.ref 276) [.ref b] H Q := by
 refine Cal.enter (names := ["box"]) D rfl rfl (by exact len1 fun uu => rfl) (by decide) rfl (by decide) fun L => ?_
 refine Xc fun uu uu => ?_;refine Xa ?_
 with_reducible refine Ev.dict1 fun r hr => ?_
 have bx0: Box b l n (H.set r (.poly [])) := bx.le (HLe.new hr _)
 have hr0: (H.set r (.poly [])).o r = some (.poly []) := MH.set_self ..
 have x0: HBx b l H (H.set r (.poly [])) := (HLe.new hr _).bx b l
 revert bx0 hr0 x0
 refine gen_ (H.set r (.poly [])) ?_
 intro H0 bx0 hr0 x0
 refine Et ?_;refine Ea ?_;refine Ek ?_;refine Ea ?_;refine En ?_;refine Ea ?_;refine Ei ?_;refine Eo ?_
 refine cal_law_take (k := 3) D bx0 (by lia) (by decide) fun j1 H1 hj1 x1 bx1 => ?_
 refine Ea ?_;refine Ek ?_;refine Ea ?_;refine En ?_;refine Ea ?_;refine Ei ?_;refine Eo ?_
 refine cal_law_take (k := 2) D bx1 (by lia) (by decide) fun j2 H2 hj2 x2 bx2 => ?_
 refine Eo ?_;refine Et ?_;refine Ea ?_;refine Ei ?_;refine Ea ?_;refine Ei ?_;refine Eo ?_
 have hr2 := (x1.trans x2).poly bx0 hr0
 refine ⟨eM (j1, j2), eR 1, rfl, rfl, hr2,?_⟩
 have up3: HUp r H2 (H2.set r (.poly (eP [((j1, j2), 1)]))) := HUp.set _ _ _
 have hr3: (H2.set r (.poly (eP [((j1, j2), 1)]))).o r = some (.poly (eP [((j1, j2), 1)])) := MH.set_self ..
 have e3: H2.set r (.poly [(eM (j1, j2), eR 1)]) = H2.set r (.poly (eP [((j1, j2), 1)])) := rfl
 rw [e3]
 revert up3 hr3
 refine gen_ (H2.set r (.poly (eP [((j1, j2), 1)]))) ?_
 intro H3 up3 hr3
 have bx3 := bx2.up up3 (fun xs q => by rw [hr2] at q; cases q)
 have x3: HBx b l H H3 := fun a h1 h2 ha => by
  obtain ⟨a1, a2⟩ := ((x0.trans x1).trans x2) a h1 h2 ha
  have ne: a ≠ r := fun q => by rw [q, hr] at ha; exact ha rfl
  obtain ⟨a3, a4⟩ := up3 a ne (by rw [a1]; exact ha)
  exact ⟨a3.trans a1, a4.trans a2⟩
 refine Tn ?_;refine Xc fun uu uu => ?_;refine Xi ?_;refine Tk ?_;refine Ek ?_;refine Ea ?_;refine En ?_;refine Ea ?_;refine Ei ?_;refine Eo ?_
 refine cal_law_take (k := 3) D bx3 (by lia) (by decide) fun j3 H4 hj3 x4 bx4 => ?_
 have hr4 := x4.poly bx3 hr3
 refine Ei ?_;refine Cmp.gt_int ?_;refine ⟨_, rfl,?_⟩
 by_cases h3: 0 < j3
 ·refine iteT (by simpa using h3) ?_
  refine Xc fun uu uu => ?_
  refine Ex.kassign_sub ?_
  refine Et ?_;refine Ea ?_;refine Eg ?_;refine Ei ?_;refine Ek ?_;refine Ea ?_;refine En ?_;refine Ea ?_;refine Ei ?_;refine Eo ?_
  refine cal_law_take (k := 2) D bx4 (by lia) (by decide) fun j4 H5 hj4 x5 bx5 => ?_
  refine Bin.add_int ?_;refine Ea ?_;refine Ei ?_;refine Eo ?_;refine En ?_;refine Et ?_;refine Ea ?_;refine Ek ?_;refine Ea ?_;refine En ?_;refine Ea ?_;refine Ei ?_;refine Eo ?_
  refine cal_law_take (k := 2) D bx5 (by lia) (by decide) fun j5 H6 hj5 x6 bx6 => ?_
  refine Ea ?_;refine Ek ?_;refine Ea ?_;refine En ?_;refine Ea ?_;refine Ei ?_;refine Eo ?_
  refine cal_law_take (k := 3) D bx6 (by lia) (by decide) fun j6 H7 hj6 x7 bx7 => ?_
  refine Eo ?_
  have hr7 := ((x5.trans x6).trans x7).poly bx4 hr4
  have hc: ((1: Int) + (j4: Int), (1: Int)) = eR (if j4 = 0 then 1 else 2) := by
   rcases Nat.lt_or_ge j4 1 with q | q
   ·have: j4 = 0 := by lia
    subst this; rfl
   ·have: j4 = 1 := by lia
    subst this; rfl
  refine Or.inr ⟨r, _, eM (j5, j6), eR (if j4 = 0 then 1 else 2), rfl, hr7, by simp [eP], rfl,?_,?_⟩
  ·rw [← hc]
  ·rw [pput_eP]
   have up8: HUp r H7 (H7.set r (.poly (eP (pp [((j1, j2), 1)] (j5, j6) (if j4 = 0 then 1 else 2))))) := HUp.set _ _ _
   have hr8: (H7.set r (.poly (eP (pp [((j1, j2), 1)] (j5, j6) (if j4 = 0 then 1 else 2))))).o r = some (.poly (eP (pp [((j1, j2), 1)] (j5, j6) (if j4 = 0 then 1 else 2)))) := MH.set_self ..
   revert up8 hr8
   refine gen_ (H7.set r (.poly (eP (pp [((j1, j2), 1)] (j5, j6) (if j4 = 0 then 1 else 2))))) ?_
   intro H8 up8 hr8
   refine Tn ?_;refine Xo ?_;refine Tn ?_;refine Xc fun uu uu => ?_;refine Xr ?_;refine En ?_;refine Tq ?_
   refine h r _ (n + 1 + 1 + 1 + 1 + 1 + 1) H8 ⟨(j1, j2), by show j1 ≤ 2; lia, by show j2 ≤ 1; lia, .inr ⟨(j5, j6), _, by show j5 ≤ 1; lia, by show j6 ≤ 2; lia,?_, rfl⟩⟩ (by lia) ?_ (bx7.up up8 (fun xs q => by rw [hr7] at q; cases q)) hr hr8
   ·by_cases q: j4 = 0 <;> simp [q]
   ·intro a h1 h2 ha
    obtain ⟨a1, a2⟩ := ((x3.trans x4).trans ((x5.trans x6).trans x7)) a h1 h2 ha
    have ne: a ≠ r := fun q => by rw [q, hr] at ha; exact ha rfl
    obtain ⟨a3, a4⟩ := up8 a ne (by rw [a1]; exact ha)
    exact ⟨a3.trans a1, a4.trans a2⟩
 ·refine iteF (by simpa using h3) ?_
  refine Xo ?_;refine Tn ?_;refine Xc fun uu uu => ?_;refine Xr ?_;refine En ?_;refine Tq ?_
  exact h r _ (n + 1 + 1 + 1) H4 ⟨(j1, j2), by show j1 ≤ 2; lia, by show j2 ≤ 1; lia, .inl rfl⟩ (by lia) (x3.trans x4) bx4 hr hr4
end

section
variable {w: World} {B: Heap} {env: Env} {d: Nat} {ρ: Rho} {H: MH}
variable {Q: V → MH → Prop} {X: MH → Prop}
set_option maxHeartbeats 2000000
theorem rangeV_drop (k i: Nat): (rangeV (i + 1)).drop k = (rangeV i).drop k ++ (if k ≤ i then [.int (i: Nat)] else []) := by
 have e: rangeV (i + 1) = rangeV i ++ [.int (i: Nat)] := by simp [rangeV, List.range_succ]
 rw [e]
 by_cases h: k ≤ i
 ·rw [if_pos h, List.drop_append_of_le_length (by rw [rangeV_length]; exact h)]
 ·rw [if_neg h, List.append_nil, List.drop_of_length_le (by rw [List.length_append, rangeV_length]; simp; lia), List.drop_of_length_le (by rw [rangeV_length]; lia)]
theorem eqa_ints (n: Nat): ∀ (xs ys: List Int), EqAs H n (xs.map V.int) (ys.map V.int) (xs == ys)
 | [], [] => .nil _
 | [], _ :: _ => .nil_cons
 | _ :: _, [] => .cons_nil
 | x :: xs, y :: ys => .cons (.int _ _ _) (eqa_ints n xs ys)
theorem nodup_eP {p: Po} (h: (p.map (·.1)).Nodup): ((eP p).map (·.1)).Nodup := by
 unfold eP
 rw [List.map_map]
 have e2: ((fun x: Mon × Rt => x.1) ∘ fun e: Mo × Rat => (eM e.1, eR e.2)) = eM ∘ (fun e: Mo × Rat => e.1) := rfl
 rw [e2, ← List.map_map]
 exact List.Pairwise.map _ (fun a b hab q => hab (eM_inj.mp q)) h
theorem eqas_polys (n: Nat) {rs rs': List Addr} {G: List Po} (h: PList H rs G) (h': PList H rs' G) (hn: ∀ p ∈ G, (p.map (·.1)).Nodup): EqAs H (n + 2) (rs.map V.ref) (rs'.map V.ref) true := by
 unfold PList at h h'
 induction h generalizing rs' with
 | nil => cases h'; exact .nil _
 | @cons r p rs G h1 t1 ih =>
  cases h' with | @cons r' uu rs' uu h2 t2 => ?_
  have hh := EqAs.cons (EqA.poly (n := n) h1 h2) (ih t2 fun q hq => hn q (.tail _ hq))
  rw [polyEq_self (nodup_eP (hn p (.head _)))] at hh; exact hh
theorem rest_nil_eq {r n: Addr} {p: Po} (h1: H.o r = some (.poly (eP p))) (h2: H.o n = some (.poly [])): EqA H 2 (.ref r) (.ref n) (decide (p = [])) := by
 have hh := EqA.poly (n := 0) h1 h2
 have e: polyEq (eP p) [] = decide (p = []) := by
  cases p with
  | nil => rfl
  | cons e p => rfl
 rw [e] at hh; exact hh
inductive I46 (H: MH) (k: Nat) (G: List Po) (i: Nat) (ys: List V) (H': MH): Prop
 | mk (c1: HLe H H') (c2: ys.length = i) (c3: ∀ j y, ys[j]? = some y → (j < k → y = .none) ∧ (k ≤ j → ∃ l' rs', y = .ref l' ∧ H'.o l' = some (.list (rs'.map V.ref)) ∧ PList H' rs' G))
theorem cal_law_bound_right (D: Wd w B) {o: Od} {l: Addr} {rs: List Addr} {ps: List Po} {k: Nat} {G: List Po} (hl: H.o l = some (.list (rs.map V.ref))) (hp: PList H rs ps) (hlen: ps.length ≤ 100)
  (ok: ∀ p ∈ ps, OkP p ∧ p ≠ [] ∧ ((monicP o p).map (·.1)).Nodup ∧ monicP o p ≠ [])
  (run: ∀ most, most < 5 → ∃ n, GRun o most n (gInit o ps) (if most < k then none else some G))
  (hG: k < 5 → G.length ≤ 100 ∧ (∀ p ∈ G, p.length ≤ 100000 ∧ (p.map (·.1)).Nodup) ∧ (∀ (i j: Nat) (f g: Po), j < i → (good G)[i]? = some f → (good G)[j]? = some g → ∃ fin, SpRed o (good G) f g fin ∧ fin.rest = []) ∧ ∀ p ∈ ps, ∃ fin, Div o p G fin ∧ fin.rest = [])
  (h: ∀ H', HLe H H' → Q (.bool true) H'): Cal w B (d + 12) (.ref 288) [.ref l, oV o] H Q := by
 have hpl := hp.length
 refine Cal.enter (names := ["some", "order"]) D rfl rfl (by exact len2 fun uu uu => rfl) (by decide) rfl (by decide) fun L => ?_
 refine Xc fun uu uu => ?_
 refine Ex.klca ?_
 refine Its.krange1 ?_
 refine Ei ?_
 refine ⟨5, by decide, rfl, I46 H k G, True.intro, ⟨HLe.refl _, rfl, fun j y hy => by simp at hy⟩, by rw [rangeV_length]; decide,?_,?_⟩
 ·rintro L i x ys H' hx uu ⟨hle, hyl, hys⟩
  obtain ⟨hi, rfl⟩ := rangeV_get hx
  obtain ⟨n, hrun⟩ := run i hi
  refine ⟨_, AsgL.name rfl, by repeat first | exact sub_inner | refine sub_set rfl ?_,?_⟩
  unfold If1
  dsimp only [TB, TE]
  rw [if_pos rfl]
  refine Ek ?_;refine Ea ?_;refine En ?_;refine Ea ?_;refine En ?_;refine Ea ?_;refine En ?_;refine Eo ?_
  have old: ∀ {H''}, HLe H' H'' → ∀ j y, ys[j]? = some y → (j < k → y = .none) ∧ (k ≤ j → ∃ l' rs', y = .ref l' ∧ H''.o l' = some (.list (rs'.map V.ref)) ∧ PList H'' rs' G) := fun hle2 j y hy => by
   obtain ⟨a1, a2⟩ := hys j y hy
   refine ⟨a1, fun q => ?_⟩
   obtain ⟨l', rs', e1, e2, e3⟩ := a2 q
   exact ⟨l', rs', e1, hle2.get e2, e3.le hle2⟩
  refine cal_law_tried D (hle.get hl) (hp.le hle) hlen (by lia) ok hrun (fun G' hG' l' rs' H1 l1 uu e1 e2 uu => ?_) (fun hnone H1 l1 => ?_)
  ·refine ⟨True.intro, hle.trans l1, by simp [hyl], fun j y hy => ?_⟩
   have hik: ¬ i < k := fun q => by rw [if_pos q] at hG'; cases hG'
   rw [if_neg hik] at hG'; cases hG'
   rcases Nat.lt_or_ge j ys.length with q | q
   ·rw [List.getElem?_append_left q] at hy; exact old l1 j y hy
   ·rw [List.getElem?_append_right q] at hy
    have hj: j = ys.length := by
     rcases Nat.eq_zero_or_pos (j - ys.length) with z | z
     ·lia
     ·rw [List.getElem?_eq_none (by simp; lia)] at hy; cases hy
    subst hj
    simp at hy; subst hy
    exact ⟨fun q2 => absurd q2 (by lia), fun uu => ⟨l', rs', rfl, e1, e2⟩⟩
  ·refine ⟨True.intro, hle.trans l1, by simp [hyl], fun j y hy => ?_⟩
   have hik: i < k := by
    rcases Nat.lt_or_ge i k with q | q
    ·exact q
    ·rw [if_neg (by lia)] at hnone; cases hnone
   rcases Nat.lt_or_ge j ys.length with q | q
   ·rw [List.getElem?_append_left q] at hy; exact old l1 j y hy
   ·rw [List.getElem?_append_right q] at hy
    have hj: j = ys.length := by
     rcases Nat.eq_zero_or_pos (j - ys.length) with z | z
     ·lia
     ·rw [List.getElem?_eq_none (by simp; lia)] at hy; cases hy
    subst hj
    simp at hy; subst hy
    exact ⟨fun uu => rfl, fun q2 => absurd q2 (by lia)⟩
 rintro ys H1 uu ⟨l1, hyl, hys⟩ bl hbl
 rw [rangeV_length] at hyl
 have l2: HLe H (H1.set bl (.list ys)) := l1.trans (HLe.new hbl _)
 have hbl2: (H1.set bl (.list ys)).o bl = some (.list ys) := MH.set_self ..
 have hys2: ∀ j y, ys[j]? = some y → (j < k → y = .none) ∧ (k ≤ j → ∃ l' rs', y = .ref l' ∧ (H1.set bl (.list ys)).o l' = some (.list (rs'.map V.ref)) ∧ PList (H1.set bl (.list ys)) rs' G) := fun j y hy => by
  obtain ⟨a1, a2⟩ := hys j y hy
  refine ⟨a1, fun q => ?_⟩
  obtain ⟨l', rs', e1, e2, e3⟩ := a2 q
  exact ⟨l', rs', e1, (HLe.new hbl _).get e2, e3.le (HLe.new hbl _)⟩
 clear hys
 revert l2 hbl2 hys2
 refine gen_ (H1.set bl (.list ys)) ?_
 intro H2 l2 hbl2 hys2
 refine Tn ?_
 refine Xc fun uu uu => ?_
 refine Ex.klca ?_
 refine Its.kenum ?_
 refine En ?_
 refine Or.inl ⟨_, _, rfl, hbl2, CompL.acc (fun i => (rangeV i).drop k) (by simp [rangeV]) (fun H' hle => hle.get hbl2) (by rw [enumV_length]; lia) (fun L i x H' hx hle => ?_) fun H3 l3 fl hfl => ?_⟩
 ·obtain ⟨y, hy, rfl⟩ := enumV_get' hx
  obtain ⟨a1, a2⟩ := hys2 i y hy
  refine ⟨_, AsgL.pair rfl rfl, by repeat first | exact sub_inner | refine sub_set rfl ?_,?_⟩
  unfold If1
  dsimp only [TB, TE]
  refine Tk ?_ (by with_unfolding_all rfl)
  refine En ?_
  refine Ev.const_none ?_
  by_cases q: i < k
  ·rw [a1 q]
   refine Cmp.isnot_none ?_;refine ⟨_, rfl,?_⟩
   refine iteF (by decide) ⟨hle,?_⟩
   dsimp only [KAcc]
   rw [rangeV_drop, if_neg (by lia), List.append_nil]
  ·obtain ⟨l', rs', rfl, uu, uu⟩ := a2 (by lia)
   refine Cmp.isnot_none_ne (by intro q; cases q) ?_;refine ⟨_, rfl,?_⟩
   refine iteT rfl ?_
   refine En ?_
   refine ⟨hle,?_⟩
   dsimp only [KAcc]
   rw [rangeV_drop, if_pos (by lia)]
 rw [enumV_length, hyl]
 have l4: HLe H (H3.set fl (.list ((rangeV 5).drop k))) := (l2.trans l3).trans (HLe.new hfl _)
 have k4: HLe H2 (H3.set fl (.list ((rangeV 5).drop k))) := l3.trans (HLe.new hfl _)
 have hfl4: (H3.set fl (.list ((rangeV 5).drop k))).o fl = some (.list ((rangeV 5).drop k)) := MH.set_self ..
 revert l4 k4 hfl4
 refine gen_ (H3.set fl (.list ((rangeV 5).drop k))) ?_
 intro H4 l4 k4 hfl4
 have erk: (rangeV 5).drop k = (((List.range 5).map fun i => ((i: Nat): Int)).drop k).map V.int := by rw [List.map_drop, List.map_map]; rfl
 have krk: ((List.range 5).map fun i => ((i: Nat): Int)).drop k = [] ↔ 5 ≤ k := by simp [List.drop_eq_nil_iff]
 have lrk: (((List.range 5).map fun i => ((i: Nat): Int)).drop k).length ≤ 5 := by rw [List.length_drop]; simp
 have hd0: k < 5 → (((List.range 5).map fun i => ((i: Nat): Int)).drop k)[0]? = some (k: Int) := fun q => by
  rw [List.getElem?_drop]
  simp [List.getElem?_range q]
 have hfull: k < 5 → (rangeV 5).drop k = (((List.range 5).map fun i => ((i: Nat): Int)).drop k).map V.int := fun uu => erk
 refine Tn ?_;refine Xc fun uu uu => ?_;refine Xi ?_;refine Tk ?_;refine En ?_;refine Eh ?_;refine Eo ?_
 intro n0 hn0
 have l5: HLe H4 (H4.set n0 (.list [])) := HLe.new hn0 _
 have h50: (H4.set n0 (.list [])).o n0 = some (.list []) := MH.set_self ..
 revert l5 h50
 refine gen_ (H4.set n0 (.list [])) ?_
 intro H5 l5 h50
 have hfl5 := l5.get hfl4
 rw [erk] at hfl5
 refine Cmp.eq (n := 1) (EqA.list (n := 0) hfl5 h50 (eqa_ints 0 _ [])) ?_
 generalize ((List.range 5).map fun i => ((i: Nat): Int)).drop k = rk at *
 refine ⟨_, rfl,?_⟩
 by_cases hk: k < 5
 ·obtain ⟨g1, g2, g3, g4⟩ := hG hk
  have hne: rk ≠ [] := fun q => by have := krk.mp q; lia
  refine iteF (by simp [hne]) ?_
  have k5 := k4.trans l5
  have hbl5 := k5.get hbl2
  obtain ⟨y0, hy0⟩: ∃ y0, ys[k]? = some y0 := ⟨_, List.getElem?_eq_getElem (by lia)⟩
  obtain ⟨lG, rG, rfl, oG, pG⟩ := (hys2 k y0 hy0).2 (Nat.le_refl k)
  refine Xo ?_;refine Tn ?_;refine Xc fun uu uu => ?_;refine Xa ?_;refine Eb ?_;refine En ?_;refine Eb ?_;refine En ?_;refine Ei ?_
  refine Iti.list hfl5 (by decide) (by decide) (by show (rk.map V.int)[0]? = _; rw [List.getElem?_map, hd0 hk]; rfl) ?_
  refine Iti.list hbl5 (by lia) (by lia) (by rw [Int.toNat_natCast]; exact hy0) ?_
  refine Tn ?_;refine Xc fun uu uu => ?_;refine Xi ?_;refine Ts.bool ?_;refine Al.kor ?_;refine Tk ?_;refine En ?_
  refine Ev.list_range D rfl rfl ?_
  refine Eb ?_;refine En ?_;refine Ei ?_
  refine Iti.list hfl5 (by decide) (by decide) (by show (rk.map V.int)[0]? = _; rw [List.getElem?_map, hd0 hk]; rfl) ?_
  refine Ei ?_
  refine ⟨k, 5, by lia, by decide, rfl, rfl, fun n6 hn6 => ?_⟩
  rw [hfull hk]
  have l6: HLe H5 (H5.set n6 (.list (rk.map V.int))) := HLe.new hn6 _
  have h66: (H5.set n6 (.list (rk.map V.int))).o n6 = some (.list (rk.map V.int)) := MH.set_self ..
  revert l6 h66
  refine gen_ (H5.set n6 (.list (rk.map V.int))) ?_
  intro H6 l6 h66
  refine Cmp.ne (n := 1) (EqA.list (n := 0) (l6.get hfl5) h66 (eqa_ints 0 rk rk)) ?_
  have e1: (rk == rk) = true := by simp
  rw [e1]
  refine ⟨_, rfl,?_⟩
  refine iteF (by decide) ?_
  refine Al.kor ?_;refine Tk ?_
  refine Ev.klc ?_
  refine Its.kof ?_
  refine Ev.list_from ?_
  refine En ?_;refine Eb ?_;refine En ?_;refine Ei ?_
  have k6 := k5.trans l6
  refine Iti.list (l6.get hfl5) (by decide) (by decide) (by show (rk.map V.int)[0]? = _; rw [List.getElem?_map, hd0 hk]; rfl) ?_
  refine ⟨bl, ys, k, rfl, rfl, k6.get hbl2, by lia, by lia, fun n7 hn7 => ?_⟩
  have l7: HLe H6 (H6.set n7 (.list (ys.drop k))) := HLe.new hn7 _
  have h77: (H6.set n7 (.list (ys.drop k))).o n7 = some (.list (ys.drop k)) := MH.set_self ..
  revert l7 h77
  refine gen_ (H6.set n7 (.list (ys.drop k))) ?_
  intro H7 l7 h77
  have k7 := k6.trans l7
  refine ⟨_, _, Itb.list h77, CompL.acc (fun uu => []) rfl (fun H' hle => hle.get h77) (by rw [List.length_drop]; lia) (fun L j x H' hx hle => ?_) fun H8 l8 n8 hn8 => ?_⟩
  ·rw [List.getElem?_drop] at hx
   obtain ⟨l', rs', rfl, o', p'⟩ := (hys2 (k + j) x hx).2 (by lia)
   refine ⟨_, AsgL.name rfl, by repeat first | exact sub_inner | refine sub_set rfl ?_,?_⟩
   unfold If1
   dsimp only [TB, TE]
   refine Tk ?_ (by with_unfolding_all rfl)
   refine En ?_;refine En ?_
   have kk := k7.trans hle
   refine Cmp.ne (n := 3) (EqA.list (n := 2) (kk.get o') (kk.get oG) (eqas_polys 0 (p'.le kk) (pG.le kk) fun p hp => (g2 p hp).2)) ?_
   refine ⟨_, rfl,?_⟩
   exact iteF (by decide) ⟨hle, rfl⟩
  have l9: HLe H7 (H8.set n8 (.list [])) := l8.trans (HLe.new hn8 _)
  have h98: (H8.set n8 (.list [])).o n8 = some (.list []) := MH.set_self ..
  revert l9 h98
  refine gen_ (H8.set n8 (.list [])) ?_
  intro H9 l9 h98
  have k9 := k7.trans l9
  refine Eh ?_;refine Eo ?_
  intro n10 hn10
  have l10: HLe H9 (H9.set n10 (.list [])) := HLe.new hn10 _
  have h10: (H9.set n10 (.list [])).o n10 = some (.list []) := MH.set_self ..
  revert l10 h10
  refine gen_ (H9.set n10 (.list [])) ?_
  intro H10 l10 h10
  refine Cmp.ne (n := 1) (EqA.list (n := 0) (l10.get h98) h10 (.nil 0)) ?_
  have k10 := k9.trans l10
  refine ⟨_, rfl,?_⟩
  refine iteF (by decide) ?_
  refine Al.or_nil ?_
  refine iteF (by decide) ?_
  refine Xo ?_;refine Tn ?_;refine Xc fun uu uu => ?_;refine Xr ?_
  refine Ev.and2 ?_
  have le10: HLe H H10 := l2.trans k10
  refine Ek ?_;refine Ea ?_;refine En ?_;refine Ea ?_;refine En ?_;refine Eo ?_
  refine cal_is_basis D (k10.get oG) (pG.le k10) g1 (fun p hp => (g2 p hp).1) g3 fun H11 l11 => ?_
  have k11 := k10.trans l11
  have le11 := le10.trans l11
  refine Tt.bool ?_
  refine iteT rfl ?_
  refine Ev.kcmp ?_
  refine Ev.klc ?_
  refine Its.kof ?_
  refine En ?_
  refine ⟨_, _, Itb.list (le11.get hl), CompL.acc (fun uu => []) rfl (fun H' hle => hle.get (le11.get hl)) (by rw [List.length_map]; lia) (fun L j x H' hx hle => ?_) fun H12 l12 n12 hn12 => ?_⟩
  ·obtain ⟨r1, hr1, rfl⟩ := rs_get hx
   obtain ⟨p, hpi, hrp⟩ := hp.get hr1
   obtain ⟨fin, hdiv, hres⟩ := g4 p (List.mem_of_getElem? hpi)
   refine ⟨_, AsgL.name rfl, by repeat first | exact sub_inner | refine sub_set rfl ?_,?_⟩
   unfold If1
   dsimp only [TB, TE]
   refine Tk ?_ (by with_unfolding_all rfl)
   refine Ek ?_;refine Ea ?_;refine En ?_;refine Ea ?_;refine En ?_;refine Ea ?_;refine En ?_;refine Eo ?_
   have kk := k11.trans hle
   refine cal_rest_of D ((le11.trans hle).get hrp) (kk.get oG) (pG.le kk) (by rw [pG.length]; lia) hdiv fun r0 H13 l13 hr0 hr => ?_
   skip
   with_reducible refine Ev.dict0 fun n14 hn14 => ?_
   have l14: HLe H13 (H13.set n14 (.poly [])) := HLe.new hn14 _
   have h14: (H13.set n14 (.poly [])).o n14 = some (.poly []) := MH.set_self ..
   revert l14 h14
   refine gen_ (H13.set n14 (.poly [])) ?_
   intro H14 l14 h14
   refine Cmp.ne (n := 2) (rest_nil_eq (l14.get hr) h14) ?_
   rw [hres]
   refine ⟨_, rfl,?_⟩
   exact iteF (by decide) ⟨(hle.trans l13).trans l14, rfl⟩
  have l15: HLe H11 (H12.set n12 (.list [])) := l12.trans (HLe.new hn12 _)
  have h15: (H12.set n12 (.list [])).o n12 = some (.list []) := MH.set_self ..
  revert l15 h15
  refine gen_ (H12.set n12 (.list [])) ?_
  intro H15 l15 h15
  refine Eh ?_;refine Eo ?_
  intro n16 hn16
  have l16: HLe H15 (H15.set n16 (.list [])) := HLe.new hn16 _
  have h16: (H15.set n16 (.list [])).o n16 = some (.list []) := MH.set_self ..
  revert l16 h16
  refine gen_ (H15.set n16 (.list [])) ?_
  intro H16 l16 h16
  refine Cmp.eq (n := 1) (EqA.list (n := 0) (l16.get h15) h16 (.nil 0)) ?_
  refine Tq ?_
  exact h H16 ((le11.trans l15).trans l16)
 ·have: rk = [] := krk.mpr (by lia)
  subst this
  refine iteT rfl ?_
  refine Xc fun uu uu => ?_;refine Xr ?_;refine Ev.const_bool ?_;refine Tq ?_;refine Tq ?_
  exact h H5 (l4.trans l5)
end

section
variable {w: World} {B: Heap} {env: Env} {d: Nat} {ρ: Rho} {H: MH}
variable {Q: V → MH → Prop} {X: MH → Prop}
set_option maxHeartbeats 2000000
theorem eqa_list_polys {l l': Addr} {rs rs': List Addr} {G: List Po} (h1: H.o l = some (.list (rs.map V.ref))) (h2: H.o l' = some (.list (rs'.map V.ref))) (p1: PList H rs G) (p2: PList H rs' G) (hn: ∀ p ∈ G, (p.map (·.1)).Nodup): EqA H 3 (.ref l) (.ref l') true :=
 EqA.list (n := 2) h1 h2 (eqas_polys 0 p1 p2 hn)
theorem mono1_nodup (a b: Nat): ((mono1 a b).map (·.1)).Nodup := by simp [mono1]
theorem cal_law_one_pair (D: Wd w B) {b l: Addr} {n: Nat} {o: Od} (bx: Box b l n H) (hn: n ≤ 80)
  (ok: ∀ x y, x ≤ 3 → y ≤ 3 → OkP (mono1 x y) ∧ mono1 x y ≠ [] ∧ ((monicP o (mono1 x y)).map (·.1)).Nodup ∧ monicP o (mono1 x y) ≠ [])
  (run0: ∀ x y, x ≤ 2 → y ≤ 2 → ∃ n, GRun o 0 n (gInit o [mono1 (1 + x) 1, mono1 (1 + y) 0]) none)
  (run1: ∀ x y, x ≤ 2 → y ≤ 2 → ∃ n, GRun o 1 n (gInit o [mono1 (1 + x) 1, mono1 (1 + y) 0]) (some [mono1 (1 + x) 1, mono1 (1 + y) 0]))
  (run2: ∃ n, GRun o 0 n (gInit o [mono1 2 0, mono1 0 3]) (some [mono1 2 0, mono1 0 3]))
  (h: ∀ H', HBx b l H H' → Q (.bool true) H'): Cal w B (d + 12) (.ref 295) [.ref b, oV o] H Q := by
 refine Cal.enter (names := ["box", "order"]) D rfl rfl (by exact len2 fun uu uu => rfl) (by decide) rfl (by decide) fun L => ?_
 with_reducible refine Xc fun uu uu => ?_;refine Xa ?_
 with_reducible refine Ev.dict1 fun r1 hr1 => ?_
 have bx0: Box b l n (H.set r1 (.poly [])) := bx.le (HLe.new hr1 _)
 have hr10: (H.set r1 (.poly [])).o r1 = some (.poly []) := MH.set_self ..
 have x0: HBx b l H (H.set r1 (.poly [])) := (HLe.new hr1 _).bx b l
 revert bx0 hr10 x0
 refine gen_ (H.set r1 (.poly [])) ?_
 intro H0 bx0 hr10 x0
 with_reducible refine Et ?_;refine Ea ?_;refine Eg ?_;refine Ei ?_;refine Ek ?_;refine Ea ?_;refine En ?_;refine Ea ?_;refine Ei ?_;refine Eo ?_
 refine cal_law_take (k := 3) D bx0 (by lia) (by decide) fun j1 H1 hj1 x1 bx1 => ?_
 with_reducible refine Bin.add_int ?_;refine Ea ?_;refine Ei ?_;refine Eo ?_;refine Et ?_;refine Ea ?_;refine Ei ?_;refine Ea ?_;refine Ei ?_;refine Eo ?_
 have hr11 := x1.poly bx0 hr10
 refine ⟨eM (1 + j1, 1), eR 1, by simp only [eM, mv]; rw [show ((1 + j1: Nat): Int) = 1 + (j1: Int) by lia]; rfl, rfl, hr11,?_⟩
 have up2: HUp r1 H1 (H1.set r1 (.poly (eP (mono1 (1 + j1) 1)))) := HUp.set _ _ _
 have hr12: (H1.set r1 (.poly (eP (mono1 (1 + j1) 1)))).o r1 = some (.poly (eP (mono1 (1 + j1) 1))) := MH.set_self ..
 refine asH (H1.set r1 (.poly (eP (mono1 (1 + j1) 1)))) ?_ rfl
 have bx2 := bx1.up up2 (fun xs q => by rw [hr11] at q; cases q)
 have x2: HBx b l H (H1.set r1 (.poly (eP (mono1 (1 + j1) 1)))) := fun a h1 h2 ha => by
  obtain ⟨a1, a2⟩ := (x0.trans x1) a h1 h2 ha
  have ne: a ≠ r1 := fun q => by rw [q, hr1] at ha; exact ha rfl
  obtain ⟨a3, a4⟩ := up2 a ne (by rw [a1]; exact ha)
  exact ⟨a3.trans a1, a4.trans a2⟩
 revert up2 hr12 bx2 x2
 refine gen_ (H1.set r1 (.poly (eP (mono1 (1 + j1) 1)))) ?_
 intro H2 up2 hr12 bx2 x2
 with_reducible refine Tn ?_;refine Xc fun uu uu => ?_;refine Ex.kpairS ?_;refine Et ?_;refine Ea ?_
 with_reducible refine Ev.dict1 fun r3 hr3 => ?_
 have bx3: Box b l (n + 1) (H2.set r3 (.poly [])) := bx2.le (HLe.new hr3 _)
 have hr30: (H2.set r3 (.poly [])).o r3 = some (.poly []) := MH.set_self ..
 have x3: HBx b l H2 (H2.set r3 (.poly [])) := (HLe.new hr3 _).bx b l
 revert bx3 hr30 x3
 refine gen_ (H2.set r3 (.poly [])) ?_
 intro H3 bx3 hr30 x3
 with_reducible refine Et ?_;refine Ea ?_;refine Eg ?_;refine Ei ?_;refine Ek ?_;refine Ea ?_;refine En ?_;refine Ea ?_;refine Ei ?_;refine Eo ?_
 refine cal_law_take (k := 3) D bx3 (by lia) (by decide) fun j2 H4 hj2 x4 bx4 => ?_
 with_reducible refine Bin.add_int ?_;refine Ea ?_;refine Ei ?_;refine Eo ?_;refine Et ?_;refine Ea ?_;refine Ei ?_;refine Ea ?_;refine Ei ?_;refine Eo ?_
 have hr34 := x4.poly bx3 hr30
 refine ⟨eM (1 + j2, 0), eR 1, by simp only [eM, mv]; rw [show ((1 + j2: Nat): Int) = 1 + (j2: Int) by lia]; rfl, rfl, hr34,?_⟩
 have up5: HUp r3 H4 (H4.set r3 (.poly (eP (mono1 (1 + j2) 0)))) := HUp.set _ _ _
 have hr35: (H4.set r3 (.poly (eP (mono1 (1 + j2) 0)))).o r3 = some (.poly (eP (mono1 (1 + j2) 0))) := MH.set_self ..
 change Evs w B _ _ _ _ (H4.set r3 (.poly (eP (mono1 (1 + j2) 0)))) _
 have x5: HBx b l H2 (H4.set r3 (.poly (eP (mono1 (1 + j2) 0)))) := fun a h1 h2 ha => by
  obtain ⟨a1, a2⟩ := (x3.trans x4) a h1 h2 ha
  have ne: a ≠ r3 := fun q => by rw [q, hr3] at ha; exact ha rfl
  obtain ⟨a3, a4⟩ := up5 a ne (by rw [a1]; exact ha)
  exact ⟨a3.trans a1, a4.trans a2⟩
 revert up5 hr35 x5
 refine gen_ (H4.set r3 (.poly (eP (mono1 (1 + j2) 0)))) ?_
 intro H5 up5 hr35 x5
 have hr15 := x5.poly bx2 hr12
 have x05 := x2.trans x5
 with_reducible refine Ea ?_
 with_reducible refine Ev.dict1 fun r6 hr6 => ?_
 with_reducible refine Et ?_;refine Ea ?_;refine Ei ?_;refine Ea ?_;refine Ei ?_;refine Eo ?_;refine Et ?_;refine Ea ?_;refine Ei ?_;refine Ea ?_;refine Ei ?_;refine Eo ?_
 refine ⟨eM (2, 0), eR 1, rfl, rfl, MH.set_self ..,?_⟩
 have l6: HLe H5 ((H5.set r6 (.poly [])).set r6 (.poly (eP (mono1 2 0)))) := HUp.le (HLe.new hr6 _) hr6 (HUp.set _ _ _)
 have hr66: ((H5.set r6 (.poly [])).set r6 (.poly (eP (mono1 2 0)))).o r6 = some (.poly (eP (mono1 2 0))) := MH.set_self ..
 change Evs w B _ _ _ _ ((H5.set r6 (.poly [])).set r6 (.poly (eP (mono1 2 0)))) _
 revert l6 hr66
 refine gen_ ((H5.set r6 (.poly [])).set r6 (.poly (eP (mono1 2 0)))) ?_
 intro H6 l6 hr66
 have hr16 := l6.get hr15
 have hr36 := l6.get hr35
 with_reducible refine Eo ?_;refine ⟨_, _, rfl,?_⟩; refine Tn ?_;refine Xc fun uu uu => ?_;refine Xi ?_;refine Ts.bool ?_;refine Al.kor ?_;refine Tk ?_;refine Ek ?_;refine Ea ?_;refine Eh ?_;refine Ea ?_;refine En ?_;refine Ea ?_;refine En ?_;refine Eo ?_
 intro n7 hn7
 have l7: HLe H6 (H6.set n7 (.list [.ref r1, .ref r3])) := HLe.new hn7 _
 have h77: (H6.set n7 (.list [.ref r1, .ref r3])).o n7 = some (.list ([r1, r3].map V.ref)) := MH.set_self ..
 revert l7 h77
 refine gen_ (H6.set n7 (.list [.ref r1, .ref r3])) ?_
 intro H7 l7 h77
 have ok2: ∀ p ∈ [mono1 (1 + j1) 1, mono1 (1 + j2) 0], OkP p ∧ p ≠ [] ∧ ((monicP o p).map (·.1)).Nodup ∧ monicP o p ≠ [] := fun p hp => by
  rcases List.mem_cons.mp hp with rfl | hp
  ·exact ok _ _ (by lia) (by lia)
  ·rw [List.mem_singleton] at hp; subst hp; exact ok _ _ (by lia) (by lia)
 with_reducible refine Ea ?_;refine En ?_;refine Ea ?_;refine Ei ?_;refine Eo ?_
 obtain ⟨n0, g0⟩ := run0 j1 j2 (by lia) (by lia)
 refine cal_law_tried (most := 0) D h77 (.cons (l7.get hr16) (.cons (l7.get hr36) .nil)) (by simp) (by decide) ok2 g0 (fun G hG => by cases hG) fun uu H8 l8 => ?_
 with_reducible refine Ev.const_none ?_;refine Cmp.isnot_none ?_;refine ⟨_, rfl,?_⟩
 refine iteF (by decide) ?_
 with_reducible refine Al.kor ?_;refine Tk ?_;refine Ek ?_;refine Ea ?_;refine Eh ?_;refine Ea ?_;refine En ?_;refine Ea ?_;refine En ?_;refine Eo ?_
 intro n9 hn9
 have l9: HLe H8 (H8.set n9 (.list [.ref r1, .ref r3])) := HLe.new hn9 _
 have h99: (H8.set n9 (.list [.ref r1, .ref r3])).o n9 = some (.list ([r1, r3].map V.ref)) := MH.set_self ..
 revert l9 h99
 refine gen_ (H8.set n9 (.list [.ref r1, .ref r3])) ?_
 intro H9 l9 h99
 have k9 := (l7.trans l8).trans l9
 with_reducible refine Ea ?_;refine En ?_;refine Ea ?_;refine Ei ?_;refine Eo ?_
 obtain ⟨n1, g1⟩ := run1 j1 j2 (by lia) (by lia)
 refine cal_law_tried (most := 1) D h99 (.cons (k9.get hr16) (.cons (k9.get hr36) .nil)) (by simp) (by decide) ok2 g1 (fun G hG la ra H10 l10 uu ha1 ha2 uu => ?_) (fun q => by cases q)
 cases hG
 with_reducible refine Eh ?_;refine Ea ?_;refine En ?_;refine Ea ?_;refine En ?_;refine Eo ?_
 intro n11 hn11
 have l11: HLe H10 (H10.set n11 (.list [.ref r1, .ref r3])) := HLe.new hn11 _
 have h11: (H10.set n11 (.list [.ref r1, .ref r3])).o n11 = some (.list ([r1, r3].map V.ref)) := MH.set_self ..
 revert l11 h11
 refine gen_ (H10.set n11 (.list [.ref r1, .ref r3])) ?_
 intro H11 l11 h11
 have k11 := (k9.trans l10).trans l11
 refine Cmp.ne (n := 3) (eqa_list_polys (l11.get ha1) h11 (ha2.le l11) (.cons (k11.get hr16) (.cons (k11.get hr36) .nil)) fun p hp => ?_) ?_
 ·rcases List.mem_cons.mp hp with rfl | hp
  ·exact mono1_nodup ..
  ·rw [List.mem_singleton] at hp; subst hp; exact mono1_nodup ..
 with_reducible refine ⟨_, rfl,?_⟩
 refine iteF (by decide) ?_
 with_reducible refine Al.or_nil ?_
 refine iteF (by decide) ?_
 with_reducible refine Xo ?_;refine Tn ?_;refine Xc fun uu uu => ?_;refine Xr ?_;refine Ev.kcmp ?_;refine Ek ?_;refine Ea ?_;refine Eh ?_;refine Ea ?_;refine En ?_;refine Ea ?_
 with_reducible refine Ev.dict1 fun r12 hr12 => ?_
 with_reducible refine Et ?_;refine Ea ?_;refine Ei ?_;refine Ea ?_;refine Ei ?_;refine Eo ?_;refine Et ?_;refine Ea ?_;refine Ei ?_;refine Ea ?_;refine Ei ?_;refine Eo ?_
 refine ⟨eM (0, 3), eR 1, rfl, rfl, MH.set_self ..,?_⟩
 have l12: HLe H11 ((H11.set r12 (.poly [])).set r12 (.poly (eP (mono1 0 3)))) := HUp.le (HLe.new hr12 _) hr12 (HUp.set _ _ _)
 have h12: ((H11.set r12 (.poly [])).set r12 (.poly (eP (mono1 0 3)))).o r12 = some (.poly (eP (mono1 0 3))) := MH.set_self ..
 change Evs w B _ _ _ _ ((H11.set r12 (.poly [])).set r12 (.poly (eP (mono1 0 3)))) _
 revert l12 h12
 refine gen_ ((H11.set r12 (.poly [])).set r12 (.poly (eP (mono1 0 3)))) ?_
 intro H12 l12 h12
 with_reducible refine Eo ?_
 intro n13 hn13
 have l13: HLe H12 (H12.set n13 (.list [.ref r6, .ref r12])) := HLe.new hn13 _
 have h13: (H12.set n13 (.list [.ref r6, .ref r12])).o n13 = some (.list ([r6, r12].map V.ref)) := MH.set_self ..
 change Evs w B _ _ _ _ (H12.set n13 (.list [.ref r6, .ref r12])) _
 revert l13 h13
 refine gen_ (H12.set n13 (.list [.ref r6, .ref r12])) ?_
 intro H13 l13 h13
 have k13 := (k11.trans l12).trans l13
 with_reducible refine Ea ?_;refine En ?_;refine Ea ?_;refine Ei ?_;refine Eo ?_
 obtain ⟨n2, g2⟩ := run2
 have ok3: ∀ p ∈ [mono1 2 0, mono1 0 3], OkP p ∧ p ≠ [] ∧ ((monicP o p).map (·.1)).Nodup ∧ monicP o p ≠ [] := fun p hp => by
  rcases List.mem_cons.mp hp with rfl | hp
  ·exact ok _ _ (by lia) (by lia)
  ·rw [List.mem_singleton] at hp; subst hp; exact ok _ _ (by lia) (by lia)
 refine cal_law_tried (most := 0) D h13 (.cons (k13.get hr66) (.cons (l13.get h12) .nil)) (by simp) (by decide) ok3 g2 (fun G hG la ra H14 l14 uu ha1 ha2 uu => ?_) (fun q => by cases q)
 cases hG
 with_reducible refine Eh ?_;refine Ea ?_;refine En ?_;refine Ea ?_
 with_reducible refine Ev.dict1 fun r15 hr15' => ?_
 with_reducible refine Et ?_;refine Ea ?_;refine Ei ?_;refine Ea ?_;refine Ei ?_;refine Eo ?_;refine Et ?_;refine Ea ?_;refine Ei ?_;refine Ea ?_;refine Ei ?_;refine Eo ?_
 refine ⟨eM (0, 3), eR 1, rfl, rfl, MH.set_self ..,?_⟩
 have l15: HLe H14 ((H14.set r15 (.poly [])).set r15 (.poly (eP (mono1 0 3)))) := HUp.le (HLe.new hr15' _) hr15' (HUp.set _ _ _)
 have h15: ((H14.set r15 (.poly [])).set r15 (.poly (eP (mono1 0 3)))).o r15 = some (.poly (eP (mono1 0 3))) := MH.set_self ..
 change Evs w B _ _ _ _ ((H14.set r15 (.poly [])).set r15 (.poly (eP (mono1 0 3)))) _
 revert l15 h15
 refine gen_ ((H14.set r15 (.poly [])).set r15 (.poly (eP (mono1 0 3)))) ?_
 intro H15 l15 h15
 with_reducible refine Eo ?_
 intro n16 hn16
 have l16: HLe H15 (H15.set n16 (.list [.ref r6, .ref r15])) := HLe.new hn16 _
 have h16: (H15.set n16 (.list [.ref r6, .ref r15])).o n16 = some (.list ([r6, r15].map V.ref)) := MH.set_self ..
 revert l16 h16
 refine gen_ (H15.set n16 (.list [.ref r6, .ref r15])) ?_
 intro H16 l16 h16
 have k1416 := l15.trans l16
 refine Cmp.eq (n := 3) (eqa_list_polys (k1416.get ha1) h16 (ha2.le k1416) (.cons (((k13.trans l14).trans k1416).get hr66) (.cons (l16.get h15) .nil)) fun p hp => ?_) ?_
 ·rcases List.mem_cons.mp hp with rfl | hp
  ·exact mono1_nodup ..
  ·rw [List.mem_singleton] at hp; subst hp; exact mono1_nodup ..
 with_reducible refine Tq ?_
 exact h H16 (x05.trans (((l6.trans (k13.trans l14)).trans k1416).bx b l))
end

section
variable {w: World} {B: Heap} {env: Env} {d: Nat} {ρ: Rho} {H: MH}
variable {Q: V → MH → Prop} {X: MH → Prop}
set_option maxHeartbeats 2000000
theorem polyEq_same {p q: Po} (h: SameP p q): polyEq (eP p) (eP q) = true := by
 obtain ⟨h1, h2⟩ := h
 simp only [polyEq, eP_length, h1, beq_self_eq_true, Bool.true_and, List.all_eq_true]
 intro e he
 obtain ⟨e', he', rfl⟩ := List.mem_map.mp he
 rw [pget_eP, h2 e' he']; simp
theorem eqa_same {a b: Addr} {p q: Po} (h1: H.o a = some (.poly (eP p))) (h2: H.o b = some (.poly (eP q))) (h: SameP p q): EqA H 2 (.ref a) (.ref b) true := by
 have hh := EqA.poly (n := 0) h1 h2
 rw [polyEq_same h] at hh; exact hh
theorem eqas_mos (n: Nat): ∀ (xs ys: List Mo), EqAs H (n + 2) (xs.map MV) (ys.map MV) (decide (xs = ys)) := by
 intro xs
 induction xs with
 | nil => intro ys; cases ys with
  | nil => exact .nil _
  | cons y ys => exact .nil_cons
 | cons x xs ih =>
  intro ys
  cases ys with
  | nil => exact .cons_nil
  | cons y ys =>
  have hh := EqAs.cons (EqA.cast (c := decide (x = y)) (EqA.tup (n := n + 1) (.cons (.int _ (x.1: Int) (y.1: Int)) (.cons (.int _ (x.2: Int) (y.2: Int)) (.nil _)))) (by
   rw [Bool.eq_iff_iff, decide_eq_true_eq, Prod.ext_iff]; simp; lia)) (ih ys)
  have e: (decide (x = y) && decide (xs = ys)) = decide (x :: xs = y :: ys) := by
   rw [Bool.eq_iff_iff]; simp
  rw [e] at hh; exact hh
theorem PList.bx {b l: Addr} {n: Nat} {H': MH} {rs: List Addr} {ps: List Po} (x: PList H rs ps) (bx: Box b l n H) (h: HBx b l H H'): PList H' rs ps :=
 All2.mono (fun uu uu q => h.poly bx q) x
theorem PList.take {rs: List Addr} {ps: List Po} (x: PList H rs ps) (k: Nat): PList H (rs.take k) (ps.take k) := by
 unfold PList at x ⊢
 induction x generalizing k with
 | nil => simpa using All2.nil
 | cons a t ih => cases k with
  | zero => exact .nil
  | succ k => exact .cons a (ih k)
theorem Cmp.is_none' {Q: V → MH → Prop} {x: V} {b: Bool} (hx: (b = true ∧ x = .none) ∨ (b = false ∧ x ≠ .none)) (h: Q (.bool b) H): Cmp w B d .Is x .none H Q := by
 rcases hx with ⟨rfl, rfl⟩ | ⟨rfl, hx⟩
 ·exact Cmp.is_none h
 ·exact Cmp.is_none_ne hx h
noncomputable def Was (sl: Addr) (v: Nat) (H: MH): Prop := H.o sl ≠ none ∧ H.ver sl = v
theorem Was.bx {sl b l: Addr} {v: Nat} {H H': MH} (z: Was sl v H) (x: HBx b l H H') (h1: sl ≠ b) (h2: sl ≠ l): Was sl v H' := by
 obtain ⟨e1, e2⟩ := x sl h1 h2 z.1
 exact ⟨by rw [e1]; exact z.1, e2.trans z.2⟩
theorem Was.le {sl: Addr} {v: Nat} {H H': MH} (z: Was sl v H) (x: HLe H H'): Was sl v H' := by
 obtain ⟨e1, e2⟩ := x sl z.1
 exact ⟨by rw [e1]; exact z.1, e2.trans z.2⟩
inductive LPI (b l sl: Addr) (ver: Nat) (i: Nat) (ys: List V) (H': MH): Prop
 | mk (rs: List Addr) (ps: List Po) (n': Nat) (e: ys = rs.map V.ref) (hi: rs.length = i) (hp: PList H' rs ps) (hs: ∀ p ∈ ps, StartP p) (hn: n' ≤ 2 + 6 * i) (bx: Box b l n' H') (z: Was sl ver H') (nb: b ∉ rs) (nl: l ∉ rs)
theorem call_law (D: Wd w B) {A: Around} {fr: List Env} {s: Shared} {E Q': Value → Shared → Prop} {v: Value} {sl: Addr} {is: List Int} (a: AOk0 (d + 14) fr A) (S: HS w B fr H s) (r: VR s.heap v (.ref sl)) (hsl: H.o sl = some (.list (is.map V.int))) (his: is.length ≤ 100)
  (P: ∀ o ps f g, (ps.length = 2 ∨ ps.length = 3) → (∀ p ∈ ps, StartP p) → StartP f → ps[0]? = some g → LawOk o ps f g)
  (K: ∀ s' H', Gr NoX H s H' s' → HS w B fr H' s' → H'.ver sl = H.ver sl → Q' (.bool true) s'): wpAny (model prg w) A (call (.ref 300) [v]) Q' E s := by
 refine enter_raw (names := ["script"]) (xs := [.ref sl]) (Q := fun v H' => v = .bool true ∧ Was sl (H.ver sl) H') (X := fun uu => False) D rfl rfl (by exact len1 fun uu => rfl) (by decide) rfl (by decide) (fun L => ?_) rfl rfl rfl (.cons r .nil) a S (fun val v H' s' g S' r q => by obtain ⟨rfl, q⟩ := q; cases r; exact K s' H' g S' q.2) (fun uu uu uu uu uu uu uu uu uu uu uu q => q.elim)
 refine Xc fun uu uu => ?_
 refine Xa ?_
 refine Eh ?_;refine Ea ?_;refine Ev.kcall_ty ?_;refine Ea ?_
 refine Ev.list_upto ?_
 refine En ?_;refine Ei ?_
 refine ⟨sl, _, 40, rfl, rfl, hsl, by simp; lia, fun n1 hn1 => ?_⟩
 have e1: ((is.map V.int).take 40) = (is.take 40).map V.int := by rw [List.map_take]
 rw [e1]
 have l1: HLe H (H.set n1 (.list ((is.take 40).map V.int))) := HLe.new hn1 _
 have h11: (H.set n1 (.list ((is.take 40).map V.int))).o n1 = some (.list ((is.take 40).map V.int)) := MH.set_self ..
 have l40: (is.take 40).length ≤ 40 := by rw [List.length_take]; lia
 generalize is.take 40 = js at *
 revert l1 h11
 refine gen_ (H.set n1 (.list (js.map V.int))) ?_
 intro H1 l1 h11
 refine Eo ?_
 refine Cal.list_list h11 (by simp; lia) fun l hl => ?_
 have l2: HLe H1 (H1.set l (.list (js.map V.int))) := HLe.new hl _
 have hll: (H1.set l (.list (js.map V.int))).o l = some (.list (js.map V.int)) := MH.set_self ..
 revert l2 hll
 refine gen_ (H1.set l (.list (js.map V.int))) ?_
 intro H2 l2 hll
 refine Ea ?_;refine Ei ?_;refine Ea ?_;refine Eg ?_;refine Ev.kcall_bi ?_;refine Ea ?_
 refine Ev.list_upto ?_
 refine En ?_;refine Ei ?_
 refine ⟨sl, _, 40, rfl, rfl, (l1.trans l2).get hsl, by simp; lia, fun n3 hn3 => ?_⟩
 rw [e1]
 have l3: HLe H2 (H2.set n3 (.list (js.map V.int))) := HLe.new hn3 _
 have h33: (H2.set n3 (.list (js.map V.int))).o n3 = some (.list (js.map V.int)) := MH.set_self ..
 revert l3 h33
 refine gen_ (H2.set n3 (.list (js.map V.int))) ?_
 intro H3 l3 h33
 refine Eo ?_
 refine Cal.sum_list h33 ?_
 refine Ei ?_
 refine Bin.mod_int (by decide) ?_
 refine Eo ?_
 intro b hb
 refine gen_ (js.sum.fmod 997) ?_
 intro sm
 have hb3: H3.o b = none := hb
 have l4: HLe H3 (H3.set b (.list [.ref l, .int (0: Nat), .int sm])) := HLe.new hb _
 have hbb: (H3.set b (.list [.ref l, .int (0: Nat), .int sm])).o b = some (.list [.ref l, .int (0: Nat), .int sm]) := MH.set_self ..
 have hl4 := (l3.trans l4).get hll
 have hlb: b ≠ l := fun q => by have := l3.get hll; rw [← q, hb] at this; cases this
 refine asH (H3.set b (.list [.ref l, .int (0: Nat), .int sm])) ?_ rfl
 revert l4 hbb hl4
 refine gen_ (H3.set b (.list [.ref l, .int (0: Nat), .int sm])) ?_
 intro H4 l4 hbb hl4
 have z0: Was sl (H.ver sl) H := ⟨by rw [hsl]; simp, rfl⟩
 have z4 := z0.le (l1.trans (l2.trans (l3.trans l4)))
 have slb: sl ≠ b := fun q => (z0.le (l1.trans (l2.trans l3))).1 (q ▸ hb3)
 have sll: sl ≠ l := fun q => (z0.le l1).1 (q ▸ hl)
 have bx4: Box b l 0 H4 := ⟨hlb, ⟨sm, hbb⟩, js, by lia, hl4⟩
 clear l1 l2 l3 l4 h11 hll h33 hn1 hl hn3 hb hb3 hbb hl4 hsl
 refine Tn ?_;refine Xc fun uu uu => ?_;refine Xa ?_;refine Eb ?_;refine Et ?_;refine Ea ?_;refine Ev.const_str ?_;refine Ea ?_;refine Ev.const_str ?_;refine Ea ?_;refine Ev.const_str ?_;refine Eo ?_;refine Ek ?_;refine Ea ?_;refine En ?_;refine Ea ?_;refine Ei ?_;refine Eo ?_
 refine cal_law_take (k := 3) D bx4 (by lia) (by decide) fun j5 H5 hj5 x5 bx5 => ?_
 skip
 obtain ⟨o, ho⟩: ∃ o, [V.str "lex", .str "grlex", .str "grevlex"][(j5: Int).toNat]? = some (oV o) := by
  rw [Int.toNat_natCast]
  rcases j5 with uu | uu | uu | j5
  ·exact ⟨.lex, rfl⟩
  ·exact ⟨.grlex, rfl⟩
  ·exact ⟨.grevlex, rfl⟩
  ·lia
 refine Iti.tup (by lia) (by lia) ho ?_
 refine Tn ?_
 refine Xc fun uu uu => ?_
 refine Ex.klca ?_
 refine Its.krange1 ?_
 refine Eg ?_;refine Ei ?_;refine Ek ?_;refine Ea ?_;refine En ?_;refine Ea ?_;refine Ei ?_;refine Eo ?_
 refine cal_law_take (k := 2) D bx5 (by lia) (by decide) fun j6 H6 hj6 x6 bx6 => ?_
 refine Bin.add_int ?_
 refine ⟨2 + j6, by lia, by rw [show ((2 + j6: Nat): Int) = 2 + (j6: Int) by lia], LPI b l sl (H.ver sl), True.intro, ⟨[], [], 2, rfl, rfl, .nil, fun uu q => (List.not_mem_nil q).elim, Nat.le_refl _, bx6, (z4.bx x5 slb sll).bx x6 slb sll, List.not_mem_nil, List.not_mem_nil⟩, by rw [rangeV_length]; lia,?_,?_⟩
 ·intro L i x ys H' hx uu zz
  obtain ⟨rs, ps, n', rfl, hi, hp, hs, hn', bx', z', nb, nl⟩ := zz
  obtain ⟨hi', rfl⟩ := rangeV_get hx
  refine ⟨_, AsgL.name rfl, by repeat first | exact sub_inner | refine sub_set rfl ?_,?_⟩
  unfold If1
  dsimp only [TB, TE]
  rw [if_pos rfl]
  refine Ek ?_;refine Ea ?_;refine En ?_;refine Eo ?_
  refine cal_law_poly D bx' (by lia) fun r p n2 H2 sp hn2 x2 bx2 hr hr' => ?_
  refine ⟨True.intro, rs ++ [r], ps ++ [p], n2, by simp, by simp [hi], (hp.bx bx' x2).append (.cons hr' .nil), fun q hq => ?_, by lia, bx2, z'.bx x2 slb sll,?_,?_⟩
  ·rcases List.mem_append.mp hq with hq | hq
   ·exact hs q hq
   ·rw [List.mem_singleton] at hq; rw [hq]; exact sp
  ·intro q
   rcases List.mem_append.mp q with q | q
   ·exact nb q
   ·rw [List.mem_singleton] at q; rw [← q] at hr; exact bx'.some1 hr
  ·intro q
   rcases List.mem_append.mp q with q | q
   ·exact nl q
   ·rw [List.mem_singleton] at q; rw [← q] at hr; exact bx'.some2 hr
 intro ys H7 uu zz sml hsml
 obtain ⟨rs, ps, n', rfl, hi, hp, hs, hn', bx7, z7, nb, nl⟩ := zz
 rw [rangeV_length] at hi hn'
 have l8: HLe H7 (H7.set sml (.list (rs.map V.ref))) := HLe.new hsml _
 have h8: (H7.set sml (.list (rs.map V.ref))).o sml = some (.list (rs.map V.ref)) := MH.set_self ..
 have bsml: sml ≠ b := fun q => bx7.some1 (q ▸ hsml)
 have lsml: sml ≠ l := fun q => bx7.some2 (q ▸ hsml)
 revert l8 h8
 refine gen_ (H7.set sml (.list (rs.map V.ref))) ?_
 intro H8 l8 h8
 have bx8 := bx7.le l8
 have z8 := z7.le l8
 have hp8 := hp.le l8
 have hpl := hp8.length
 clear hp bx7 l8 hsml
 refine Tn ?_;refine Xc fun uu uu => ?_;refine Ex.kpairS ?_;refine Et ?_;refine Ea ?_;refine Ek ?_;refine Ea ?_;refine En ?_;refine Eo ?_
 refine cal_law_poly D bx8 (by lia) fun rf f n9 H9 spf hn9 x9 bx9 hrf hrf' => ?_
 have h9 := x9.get h8 bsml lsml
 have z9 := z8.bx x9 slb sll
 have hp9 := hp8.bx bx8 x9
 refine Ea ?_;refine Eb ?_;refine En ?_;refine Ei ?_
 obtain ⟨g, hg0⟩: ∃ g, ps[0]? = some g := ⟨_, List.getElem?_eq_getElem (by lia)⟩
 obtain ⟨rg, hrg, hog⟩ := hp9.get' hg0
 refine Iti.list h9 (by decide) (by decide) (by show (rs.map V.ref)[0]? = _; rw [List.getElem?_map, hrg]; rfl) ?_
 have LK := P o ps f g (by lia) hs spf hg0
 clear P hs spf
 have hps3: ps.length ≤ 3 := by lia
 have hps2: 2 ≤ ps.length := by lia
 generalize hHK: H9 = HK at *
 clear hHK
 refine Eo ?_;refine ⟨_, _, rfl,?_⟩; refine Tn ?_;refine Xc fun uu uu => ?_;refine Xi ?_;refine Ts.knot ?_
 refine Ts.kval ?_ (by intro uu; rfl)
 refine Ek ?_;refine Ea ?_;refine En ?_;refine Ea ?_;refine En ?_;refine Eo ?_
 obtain ⟨k, G, runs, hG⟩ := LK.bound
 refine cal_law_bound_right D h9 hp9 (by lia) LK.inps runs hG fun H10 l10 => ?_
 refine Tt.bool ?_
 refine iteF (by decide) ?_
 refine Xo ?_;refine Tn ?_;refine Xc fun uu uu => ?_;refine Ex.kpair ?_;refine Ek ?_;refine Ea ?_;refine En ?_;refine Ea ?_;refine Eg ?_;refine Eh ?_;refine Ea ?_
 clear runs hG
 have hp10 := hp9.le l10
 have h10 := l10.get h9
 have hf10 := l10.get hrf'
 with_reducible refine Ev.dict0 fun d1 hd1 => ?_
 have l11: HLe H10 (H10.set d1 (.poly [])) := HLe.new hd1 _
 have g11: (H10.set d1 (.poly [])).o d1 = some (.poly (eP [])) := MH.set_self ..
 revert l11 g11
 refine gen_ (H10.set d1 (.poly [])) ?_
 intro H11 l11 g11
 refine Eo ?_
 intro n12 hn12
 have l12: HLe H11 (H11.set n12 (.list [.ref d1])) := HLe.new hn12 _
 have g12: (H11.set n12 (.list [.ref d1])).o n12 = some (.list [.ref d1]) := MH.set_self ..
 revert l12 g12
 refine gen_ (H11.set n12 (.list [.ref d1])) ?_
 intro H12 l12 g12
 have l1012 := l11.trans l12
 refine Ev.list_upto ?_
 refine En ?_;refine Ei ?_
 refine ⟨sml, _, 2, rfl, rfl, l1012.get h10, by rw [List.length_map]; lia, fun n13 hn13 => ?_⟩
 rw [← List.map_take]
 have l13: HLe H12 (H12.set n13 (.list ((rs.take 2).map V.ref))) := HLe.new hn13 _
 have g13: (H12.set n13 (.list ((rs.take 2).map V.ref))).o n13 = some (.list ((rs.take 2).map V.ref)) := MH.set_self ..
 revert l13 g13
 refine gen_ (H12.set n13 (.list ((rs.take 2).map V.ref))) ?_
 intro H13 l13 g13
 refine Bin.add_list (l13.get g12) g13 (by rw [List.length_map, List.length_take]; simp; lia) fun n14 hn14 => ?_
 have eapp: [V.ref d1] ++ (rs.take 2).map V.ref = (d1 :: rs.take 2).map V.ref := rfl
 rw [eapp]
 have l14: HLe H13 (H13.set n14 (.list ((d1 :: rs.take 2).map V.ref))) := HLe.new hn14 _
 have g14: (H13.set n14 (.list ((d1 :: rs.take 2).map V.ref))).o n14 = some (.list ((d1 :: rs.take 2).map V.ref)) := MH.set_self ..
 revert l14 g14
 refine gen_ (H13.set n14 (.list ((d1 :: rs.take 2).map V.ref))) ?_
 intro H14 l14 g14
 have l1014 := l1012.trans (l13.trans l14)
 refine Ea ?_;refine En ?_;refine Eo ?_
 obtain ⟨fin, hdiv, hql, hq0, hmul, hsumok, hrestok, hsame⟩ := LK.parts
 have pl14: PList H14 (d1 :: rs.take 2) ([] :: ps.take 2) := .cons ((l12.trans (l13.trans l14)).get g11) ((hp10.take 2).le l1014)
 refine cal_mvdivide D (l1014.get hf10) g14 pl14 (by rw [List.length_cons, List.length_take]; lia) hdiv fun ql qrs r0 H15 l15 uu gq pq uu uu gr => ?_
 refine ⟨_, _, rfl,?_⟩; refine Tn ?_;refine Xc fun uu uu => ?_;refine Xi ?_;refine Ts.bool ?_;refine Al.kor ?_;refine Tk ?_;refine Eb ?_;refine En ?_;refine Ei ?_
 obtain ⟨rq0, hrq0, oq0⟩ := pq.get' hq0
 refine Iti.list gq (by decide) (by decide) (by show (qrs.map V.ref)[0]? = _; rw [List.getElem?_map, hrq0]; rfl) ?_
 skip
 with_reducible refine Ev.dict0 fun d2 hd2 => ?_
 have l16: HLe H15 (H15.set d2 (.poly [])) := HLe.new hd2 _
 have g16: (H15.set d2 (.poly [])).o d2 = some (.poly []) := MH.set_self ..
 revert l16 g16
 refine gen_ (H15.set d2 (.poly [])) ?_
 intro H16 l16 g16
 refine Cmp.ne (n := 2) (rest_nil_eq (l16.get oq0) g16) ?_
 refine ⟨_, rfl,?_⟩
 refine iteF (by decide) ?_
 refine Al.kor ?_;refine Tk ?_;refine Ek ?_;refine Ea ?_;refine Ek ?_;refine Ea ?_;refine En ?_;refine Ea ?_;refine Eg ?_;refine Eh ?_;refine Ea ?_
 with_reducible refine Ev.dict0 fun d3 hd3 => ?_
 have l17: HLe H16 (H16.set d3 (.poly [])) := HLe.new hd3 _
 have g17: (H16.set d3 (.poly [])).o d3 = some (.poly (eP [])) := MH.set_self ..
 revert l17 g17
 refine gen_ (H16.set d3 (.poly [])) ?_
 intro H17 l17 g17
 refine Eo ?_
 intro n18 hn18
 have l18: HLe H17 (H17.set n18 (.list [.ref d3])) := HLe.new hn18 _
 have g18: (H17.set n18 (.list [.ref d3])).o n18 = some (.list [.ref d3]) := MH.set_self ..
 revert l18 g18
 refine gen_ (H17.set n18 (.list [.ref d3])) ?_
 intro H18 l18 g18
 have l1018 := (l1014.trans l15).trans (l16.trans (l17.trans l18))
 refine Ev.list_upto ?_
 refine En ?_;refine Ei ?_
 refine ⟨sml, _, 2, rfl, rfl, l1018.get h10, by rw [List.length_map]; lia, fun n19 hn19 => ?_⟩
 rw [← List.map_take]
 have l19: HLe H18 (H18.set n19 (.list ((rs.take 2).map V.ref))) := HLe.new hn19 _
 have g19: (H18.set n19 (.list ((rs.take 2).map V.ref))).o n19 = some (.list ((rs.take 2).map V.ref)) := MH.set_self ..
 revert l19 g19
 refine gen_ (H18.set n19 (.list ((rs.take 2).map V.ref))) ?_
 intro H19 l19 g19
 refine Bin.add_list (l19.get g18) g19 (by rw [List.length_map, List.length_take]; simp; lia) fun n20 hn20 => ?_
 have eapp2: [V.ref d3] ++ (rs.take 2).map V.ref = (d3 :: rs.take 2).map V.ref := rfl
 rw [eapp2]
 have l20: HLe H19 (H19.set n20 (.list ((d3 :: rs.take 2).map V.ref))) := HLe.new hn20 _
 have g20: (H19.set n20 (.list ((d3 :: rs.take 2).map V.ref))).o n20 = some (.list ((d3 :: rs.take 2).map V.ref)) := MH.set_self ..
 revert l20 g20
 refine gen_ (H19.set n20 (.list ((d3 :: rs.take 2).map V.ref))) ?_
 intro H20 l20 g20
 have l1820 := l19.trans l20
 have l1020 := l1018.trans l1820
 have l1520 := (l16.trans (l17.trans l18)).trans l1820
 have pl20: PList H20 (d3 :: rs.take 2) ([] :: ps.take 2) := .cons ((l18.trans l1820).get g17) ((hp10.take 2).le l1020)
 have hss: ([] :: ps.take 2: List Po).length = 3 := by rw [List.length_cons, List.length_take]; lia
 refine Eo ?_
 refine cal_sum_of_products D (l1520.get gq) g20 (pq.le l1520) pl20 (by lia) (by lia) hmul fun n21 H21 l21 uu g21 => ?_
 rw [hss] at g21
 refine Ea ?_;refine En ?_;refine Eo ?_
 refine cal_mvadd D g21 ((l1520.trans l21).get gr) hsumok hrestok fun n22 H22 l22 uu g22 => ?_
 have l1022 := (l1020.trans l21).trans l22
 refine En ?_
 refine Cmp.ne (n := 2) (eqa_same g22 (l1022.get hf10) hsame) ?_
 refine ⟨_, rfl,?_⟩
 refine iteF (by decide) ?_
 refine Al.or_nil ?_
 refine iteF (by decide) ?_
 refine Xo ?_;refine Tn ?_;refine Xc fun uu uu => ?_;refine Xi ?_;refine Ts.bool ?_;refine Al.kor ?_;refine Tk ?_;refine Ek ?_;refine Ea ?_;refine En ?_;refine Ea ?_;refine Eh ?_;refine Eo ?_
 clear hdiv hmul hsumok hrestok hsame pl14 pl20 pq gq gr g20 g19 g18 g17 g16 g14 g13 g12 g11 g21 g22
 have hf22 := l1022.get hf10
 have z22 := (z9.le l10).le l1022
 have h22 := l1022.get h10
 have hp22 := hp10.le l1022
 have bx22 := (bx9.le l10).le l1022
 have hog22 := (l10.trans l1022).get hog
 generalize hHK: H22 = HK at *
 clear hHK l22 l1022 l21 l1020 l1520 l1820 l20 l19 l1018 l18 l17 l16 l15 l1014 l14 l13 l1012 l12 l11 l10
 intro n23 hn23
 have l23: HLe HK (HK.set n23 (.list [])) := HLe.new hn23 _
 have g23: (HK.set n23 (.list [])).o n23 = some (.list (([]: List Addr).map V.ref)) := MH.set_self ..
 revert l23 g23
 refine gen_ (HK.set n23 (.list [])) ?_
 intro H23 l23 g23
 refine Ea ?_;refine En ?_;refine Eo ?_
 obtain ⟨fin, hdiv, hsame⟩ := LK.none_
 refine cal_rest_of D (l23.get hf22) g23 (ps := []) .nil (by simp) hdiv fun r0 H24 l24 uu g24 => ?_
 refine En ?_
 refine Cmp.ne (n := 2) (eqa_same g24 ((l23.trans l24).get hf22) hsame) ?_
 refine ⟨_, rfl,?_⟩
 refine iteF (by decide) ?_
 refine Al.kor ?_;refine Tk ?_;refine Ek ?_;refine Ea ?_
 with_reducible refine Ev.dict0 fun d25 hd25 => ?_
 have l25: HLe H24 (H24.set d25 (.poly [])) := HLe.new hd25 _
 have g25: (H24.set d25 (.poly [])).o d25 = some (.poly (eP [])) := MH.set_self ..
 revert l25 g25
 refine gen_ (H24.set d25 (.poly [])) ?_
 intro H25 l25 g25
 have k25 := l23.trans (l24.trans l25)
 refine Ea ?_;refine En ?_;refine Ea ?_;refine En ?_;refine Eo ?_
 obtain ⟨fin2, hdiv2, hres2⟩ := LK.zero_
 refine cal_rest_of D g25 (k25.get h22) (hp22.le k25) (by lia) hdiv2 fun r26 H26 l26 uu g26 => ?_
 skip
 with_reducible refine Ev.dict0 fun d27 hd27 => ?_
 have l27: HLe H26 (H26.set d27 (.poly [])) := HLe.new hd27 _
 have g27: (H26.set d27 (.poly [])).o d27 = some (.poly []) := MH.set_self ..
 revert l27 g27
 refine gen_ (H26.set d27 (.poly [])) ?_
 intro H27 l27 g27
 refine Cmp.ne (n := 2) (rest_nil_eq (l27.get g26) g27) ?_
 rw [hres2]
 have k27 := k25.trans (l26.trans l27)
 refine ⟨_, rfl,?_⟩
 refine iteF (by decide) ?_
 refine Al.or_nil ?_
 refine iteF (by decide) ?_
 refine Xo ?_;refine Tn ?_;refine Xc fun uu uu => ?_;refine Xi ?_;refine Ts.bool ?_;refine Al.kor ?_;refine Tk ?_;refine Ek ?_;refine Ea ?_;refine En ?_;refine Ea ?_
 with_reducible refine Ev.dict0 fun d28 hd28 => ?_
 have l28: HLe H27 (H27.set d28 (.poly [])) := HLe.new hd28 _
 have g28: (H27.set d28 (.poly [])).o d28 = some (.poly (eP [])) := MH.set_self ..
 revert l28 g28
 refine gen_ (H27.set d28 (.poly [])) ?_
 intro H28 l28 g28
 refine Eo ?_
 refine cal_mvexact0 D g28 ?_
 refine Ev.const_none ?_;refine Cmp.isnot_none ?_;refine ⟨_, rfl,?_⟩
 refine iteF (by decide) ?_
 refine Al.kor ?_;refine Tk ?_;refine Ek ?_;refine Ea ?_
 with_reducible refine Ev.dict0 fun d29 hd29 => ?_
 have l29: HLe H28 (H28.set d29 (.poly [])) := HLe.new hd29 _
 have g29: (H28.set d29 (.poly [])).o d29 = some (.poly (eP [])) := MH.set_self ..
 revert l29 g29
 refine gen_ (H28.set d29 (.poly [])) ?_
 intro H29 l29 g29
 have k29 := k27.trans (l28.trans l29)
 refine Ea ?_;refine En ?_;refine Eo ?_
 obtain ⟨fin3, hdiv3, hres3, hq3⟩ := LK.exact0
 have inkg := LK.inps g (List.mem_of_getElem? hg0)
 have okg := inkg.1
 refine cal_mvexact D g29 (k29.get hog22) inkg.2.1 okg hdiv3 hq3 (by rw [hres3]; decide) fun H30 l30 => ⟨fun uu r30 g30 uu => ?_, fun q => absurd hres3 q⟩
 skip
 with_reducible refine Ev.dict0 fun d31 hd31 => ?_
 have l31: HLe H30 (H30.set d31 (.poly [])) := HLe.new hd31 _
 have g31: (H30.set d31 (.poly [])).o d31 = some (.poly []) := MH.set_self ..
 revert l31 g31
 refine gen_ (H30.set d31 (.poly [])) ?_
 intro H31 l31 g31
 refine Cmp.ne (n := 2) (rest_nil_eq (l31.get g30) g31) ?_
 have k31 := k29.trans (l30.trans l31)
 refine ⟨_, rfl,?_⟩
 refine iteF (by decide) ?_
 refine Al.kor ?_;refine Ts.knot ?_
 refine Ts.kval ?_ (by intro uu; rfl)
 refine Ek ?_;refine Ea ?_;refine En ?_;refine Ea ?_;refine En ?_;refine Eo ?_
 have bx31 := bx22.le k31
 refine cal_law_one_pair D bx31 (by lia) LK.okpair LK.pair0 LK.pair1 LK.pair2 fun H32 x32 => ?_
 have hf32 := x32.poly bx31 (k31.get hf22)
 have z32 := (z22.le k31).bx x32 slb sll
 have hg32 := x32.poly bx31 (k31.get hog22)
 refine Tt.bool ?_
 refine iteF (by decide) ?_
 refine Al.or_nil ?_
 refine iteF (by decide) ?_
 refine Xo ?_;refine Tn ?_;refine Xc fun uu uu => ?_;refine Xa ?_;refine Ek ?_;refine Ea ?_;refine En ?_;refine Ea ?_;refine En ?_;refine Eo ?_
 clear x32 bx31 k31 l31 g31 l30 k29 l29 g29 l28 g28 k27 l27 g27 l26 g26 k25 l25 g25 l24 g24 l23 g23
 refine cal_mvmul D hf32 hg32 LK.mul fun wh H33 l33 uu g33 => ?_
 refine Tn ?_;refine Xc fun uu uu => ?_;refine Xi ?_;refine Ts.bool ?_;refine Al.kor ?_;refine Tk ?_;refine Ek ?_;refine Ea ?_;refine En ?_;refine Ea ?_;refine En ?_;refine Eo ?_
 obtain ⟨fin4, q4, hdiv4, hres4, hq4, hsame4⟩ := LK.exact1
 refine cal_mvexact D g33 (l33.get hg32) inkg.2.1 okg hdiv4 hq4 (by rw [hres4]; decide) fun H34 l34 => ⟨fun uu r34 g34 uu => ?_, fun q => absurd hres4 q⟩
 have k34 := l33.trans l34
 refine En ?_
 refine Cmp.ne (n := 2) (eqa_same g34 (k34.get hf32) hsame4) ?_
 refine ⟨_, rfl,?_⟩
 refine iteF (by decide) ?_
 refine Al.kor ?_;refine Tk ?_;refine Ev.kcmp ?_;refine Ek ?_;refine Ea ?_;refine Ek ?_;refine Ea ?_;refine En ?_;refine Ea ?_
 with_reducible refine Ev.dict1 fun d35 hd35 => ?_
 refine Et ?_;refine Ea ?_;refine Ei ?_;refine Ea ?_;refine Ei ?_;refine Eo ?_;refine Et ?_;refine Ea ?_;refine Ei ?_;refine Ea ?_;refine Ei ?_;refine Eo ?_
 refine ⟨eM (0, 0), eR 1, rfl, rfl, MH.set_self ..,?_⟩
 have l35: HLe H34 ((H34.set d35 (.poly [])).set d35 (.poly (eP [((0, 0), 1)]))) := HUp.le (HLe.new hd35 _) hd35 (HUp.set _ _ _)
 have g35: ((H34.set d35 (.poly [])).set d35 (.poly (eP [((0, 0), 1)]))).o d35 = some (.poly (eP [((0, 0), 1)])) := MH.set_self ..
 change Evs w B _ _ _ _ ((H34.set d35 (.poly [])).set d35 (.poly (eP [((0, 0), 1)]))) _
 revert l35 g35
 refine gen_ ((H34.set d35 (.poly [])).set d35 (.poly (eP [((0, 0), 1)]))) ?_
 intro H35 l35 g35
 refine Eo ?_
 refine cal_mvadd D ((l34.trans l35).get g33) g35 LK.okmul (LK.okpair 0 0 (by decide) (by decide)).1 fun n36 H36 l36 uu g36 => ?_
 have k36 := (k34.trans l35).trans l36
 refine Ea ?_;refine En ?_;refine Eo ?_
 obtain ⟨fin5, q5, hdiv5, hlen5, hq5, hiff⟩ := LK.exact2
 refine Cal.mono (Q := fun v H' => HLe H36 H' ∧ ((decide (fin5.rest ≠ []) = true ∧ v = .none) ∨ (decide (fin5.rest ≠ []) = false ∧ v ≠ .none))) (cal_mvexact D g36 (k36.get hg32) inkg.2.1 okg hdiv5 hq5 hlen5 fun H37 l37 =>
  ⟨fun hr r37 uu uu => ⟨l37, .inr ⟨by simp [hr], fun q => by cases q⟩⟩, fun hr => ⟨l37, .inl ⟨by simp [hr], rfl⟩⟩⟩) fun v37 H37 hv37 => ?_
 obtain ⟨l37, hv37⟩ := hv37
 refine Ev.const_none ?_
 refine Cmp.is_none' hv37 ?_
 have k37 := k36.trans l37
 refine Ev.kcmp ?_;refine Ev.kcall_ty ?_;refine Ea ?_;refine En ?_;refine Eo ?_
 refine Cal.list_poly (k37.get hg32) (by rw [eP_length]; exact Nat.le_trans okg.len (by decide)) fun n38 hn38 => ?_
 have e38: (eP g).map (fun e => mv e.1) = (g.map (·.1)).map MV := by simp [eP]
 rw [e38]
 have l38: HLe H37 (H37.set n38 (.list ((g.map (·.1)).map MV))) := HLe.new hn38 _
 have g38: (H37.set n38 (.list ((g.map (·.1)).map MV))).o n38 = some (.list ((g.map (·.1)).map MV)) := MH.set_self ..
 revert l38 g38
 refine gen_ (H37.set n38 (.list ((g.map fun e: Mo × Rat => e.1).map MV))) ?_
 intro H38 l38 g38
 refine Eh ?_;refine Ea ?_;refine Et ?_;refine Ea ?_;refine Ei ?_;refine Ea ?_;refine Ei ?_;refine Eo ?_;refine Eo ?_
 intro n39 hn39
 have l39: HLe H38 (H38.set n39 (.list [MV (0, 0)])) := HLe.new hn39 _
 have g39: (H38.set n39 (.list [MV (0, 0)])).o n39 = some (.list (([(0, 0)]: List Mo).map MV)) := MH.set_self ..
 change Cmp w B _ _ _ _ (H38.set n39 (.list [MV (0, 0)])) _
 revert l39 g39
 refine gen_ (H38.set n39 (.list [MV (0, 0)])) ?_
 intro H39 l39 g39
 refine Cmp.eq (n := 3) (EqA.list (n := 2) (l39.get g38) g39 (eqas_mos 0 _ _)) ?_
 refine Cmp.eq (EqA.bool 0 _ _) ?_ (Nat.zero_le _)
 have eb: (decide (fin5.rest ≠ []) == decide (g.map (·.1) = [(0, 0)])) = false := by
  by_cases q: fin5.rest = []
  ·simp [q, hiff.mp q]
  ·have: ¬ g.map (·.1) = [(0, 0)] := fun q2 => q (hiff.mpr q2)
   simp [q, this]
 rw [eb]
 have k39 := k37.trans (l38.trans l39)
 refine ⟨_, rfl,?_⟩
 refine iteF (by decide) ?_
 refine Al.or_nil ?_
 refine iteF (by decide) ?_
 refine Xo ?_;refine Tn ?_;refine Xc fun uu uu => ?_;refine Xr ?_
 refine Ev.and3 ?_
 refine Ev.kcmp ?_;refine Ek ?_;refine Ea ?_;refine Eh ?_;refine Ea ?_;refine En ?_;refine Ea ?_
 with_reducible refine Ev.dict0 fun d40 hd40 => ?_
 have l40': HLe H39 (H39.set d40 (.poly [])) := HLe.new hd40 _
 have g40: (H39.set d40 (.poly [])).o d40 = some (.poly (eP [])) := MH.set_self ..
 revert l40' g40
 refine gen_ (H39.set d40 (.poly [])) ?_
 intro H40 l40' g40
 refine Ea ?_;refine En ?_;refine Eo ?_
 intro n41 hn41
 have l41: HLe H40 (H40.set n41 (.list [.ref rg, .ref d40, .ref rg])) := HLe.new hn41 _
 have g41: (H40.set n41 (.list [.ref rg, .ref d40, .ref rg])).o n41 = some (.list [.ref rg, .ref d40, .ref rg]) := MH.set_self ..
 revert l41 g41
 refine gen_ (H40.set n41 (.list [.ref rg, .ref d40, .ref rg])) ?_
 intro H41 l41 g41
 have k41 := k39.trans (l40'.trans l41)
 have hg41 := k41.get hg32
 obtain ⟨lg, hlg⟩: ∃ lg, lead o g = some lg := by
  cases q: lead o g with
  | none => exact absurd (lead_none.mp q) inkg.2.1
  | some lg => exact ⟨lg, rfl⟩
 refine Ea ?_;refine En ?_;refine Eo ?_
 refine cal_minimal_basis D g41 hg41 (l41.get g40) hlg okg.wf.1 okg.len fun n42 H42 l42 uu g42 => ?_
 refine Eh ?_;refine Ea ?_;refine En ?_;refine Eo ?_
 intro n43 hn43
 have l43: HLe H42 (H42.set n43 (.list [.ref rg])) := HLe.new hn43 _
 have g43: (H42.set n43 (.list [.ref rg])).o n43 = some (.list ([rg].map V.ref)) := MH.set_self ..
 revert l43 g43
 refine gen_ (H42.set n43 (.list [.ref rg])) ?_
 intro H43 l43 g43
 have hg43 := (l42.trans l43).get hg41
 have plg: PList H43 [rg] [g] := .cons hg43 .nil
 refine Cmp.eq (n := 3) (eqa_list_polys (rs := [rg]) (l43.get g42) g43 plg plg fun p hp => ?_) ?_
 ·rw [List.mem_singleton] at hp; rw [hp]; exact okg.wf.1
 refine Tt.bool ?_
 refine iteT rfl ?_
 refine Ek ?_;refine Ea ?_;refine Eh ?_;refine Ea ?_
 with_reducible refine Ev.dict0 fun d44 hd44 => ?_
 have l44: HLe H43 (H43.set d44 (.poly [])) := HLe.new hd44 _
 have g44: (H43.set d44 (.poly [])).o d44 = some (.poly (eP [])) := MH.set_self ..
 revert l44 g44
 refine gen_ (H43.set d44 (.poly [])) ?_
 intro H44 l44 g44
 refine Ea ?_;refine En ?_;refine Eo ?_
 intro n45 hn45
 have l45: HLe H44 (H44.set n45 (.list [.ref d44, .ref rg])) := HLe.new hn45 _
 have g45: (H44.set n45 (.list [.ref d44, .ref rg])).o n45 = some (.list ([d44, rg].map V.ref)) := MH.set_self ..
 revert l45 g45
 refine gen_ (H44.set n45 (.list [.ref d44, .ref rg])) ?_
 intro H45 l45 g45
 refine Ea ?_;refine En ?_;refine Eo ?_
 refine cal_is_basis (ps := [[], g]) D g45 (.cons (l45.get g44) (.cons ((l44.trans l45).get hg43) .nil)) (by simp) (fun p hp => ?_) (fun i j f' g' hj hi hj' => ?_) fun H46 l46 => ?_
 ·rcases List.mem_cons.mp hp with rfl | hp
  ·simp
  ·rw [List.mem_singleton] at hp; rw [hp]; exact okg.len
 ·have eg: good [[], g] = [g] := by unfold good; simp [inkg.2.1]
  rw [eg] at hi
  have := (List.getElem?_eq_some_iff.mp hi).1
  simp at this; lia
 refine Tt.bool ?_
 refine iteT rfl ?_
 refine Ek ?_;refine Ea ?_;refine Eh ?_;refine Eo ?_
 intro n47 hn47
 have g47: (H46.set n47 (.list [])).o n47 = some (.list (([]: List Addr).map V.ref)) := MH.set_self ..
 have l47: HLe H46 (H46.set n47 (.list [])) := HLe.new hn47 _
 revert g47 l47
 refine gen_ (H46.set n47 (.list [])) ?_
 intro H47 g47 l47
 refine Ea ?_;refine En ?_;refine Eo ?_
 refine cal_is_basis (ps := []) D g47 .nil (by simp) (by simp) (fun i j f' g' hj hi hj' => ?_) fun H48 l48 => ?_
 ·simp [good] at hi
 refine Then.ret (by assumption) ?_
 exact ⟨rfl, ((((((z32.le k41).le l42).le l43).le (l44.trans l45)).le l46).le l47).le l48⟩
end

end Mine.Internal
end
section
open PySem PySem.W PySem.Calls PyProof.Rows
namespace Mine.Internal
noncomputable def without (h: Heap) (a: Addr): Heap := h.update a fun uu => ⟨.none, none, .freed, #[]⟩
theorem without_at (h: Heap) (a: Addr): (without h a).get? a = none := by
 cases q: (without h a).get? a with
 | none => rfl
 | some o =>
  exfalso
  obtain ⟨h1, h2⟩ := Heap.get?_some_iff.mp q
  unfold without at h1
  obtain ⟨objs, l⟩ := h
  simp only [Heap.update, Array.getElem?_modify] at h1
  cases e: objs[a]? with
  | none => rw [e] at h1; simp at h1
  | some x => rw [e] at h1; simp at h1; subst h1; cases h2
theorem without_ne {h: Heap} {a b: Addr} (hb: b ≠ a): (without h a).get? b = h.get? b := by
 unfold without; exact Heap.get?_update_other _ _ (Ne.symm hb)
theorem without_some {h: Heap} {a b: Addr} {o: Obj} (e: (without h a).get? b = some o): b ≠ a ∧ h.get? b = some o := by
 by_cases q: b = a
 ·subst q; rw [without_at] at e; exact nsF e
 ·rw [without_ne q] at e; exact ⟨q, e⟩
theorem Ns.without {h: Heap} {a b: Addr} {m: Str → Option Value} (x: h.Ns b m) {o: Obj} (ho: h.get? a = some o) (hd: ∀ es n, o.data ≠ .dict es n): (without h a).Ns b m := by
 obtain ⟨ob, es, ep, e1, e2, r⟩ := x
 have: b ≠ a := fun q => by subst q; rw [ho] at e1; obtain rfl := Option.some.inj e1; exact hd _ _ e2
 exact ⟨ob, es, ep, (without_ne this).trans e1, e2, r⟩
theorem Ns.ne {h: Heap} {a b: Addr} {m: Str → Option Value} (x: h.Ns b m) {o: Obj} (ho: h.get? a = some o) (hd: ∀ es n, o.data ≠ .dict es n): b ≠ a := by
 obtain ⟨ob, es, ep, e1, e2, r⟩ := x
 intro q; subst q; rw [ho] at e1; obtain rfl := Option.some.inj e1; exact hd _ _ e2
theorem wells_ints {P: Params} {h: Heap}: ∀ {vs: List Value} {is: List Int}, WellAll P h vs (ofPys (is.map PyData.int)) → VRs h vs (is.map V.int)
 | _, [], w => by cases w; exact .nil
 | _, i :: is, w => by
  cases w with | @cons v vs uu uu w1 w2 => ?_
  cases w1
  exact .cons (.int ..) (wells_ints w2)
theorem frag_nolist (P: Params): ((Internal.heapK P).all fun p => p.2.cls != Value.type "list") = true := by rfl
theorem frag_mem {b: Addr} {o: Obj}: ∀ {K: List (Addr × Obj)}, K.lookup b = some o → (b, o) ∈ K
 | [], h => by cases h
 | (c, x) :: K, h => by
  rw [List.lookup_cons] at h
  by_cases q: b = c
  ·subst q; simp at h; subst h; exact .head _
  ·rw [beq_eq_false_iff_ne.mpr q] at h; exact .tail _ (frag_mem h)
theorem law_top {w: World} {s₁: Shared} {a: Addr} {is: List Int} {mg mb: Str → Option Value} {E Q': Value → Shared → Prop}
  (P: ∀ o ps f g, (ps.length = 2 ∨ ps.length = 3) → (∀ p ∈ ps, StartP p) → StartP f → ps[0]? = some g → LawOk o ps f g)
  (KX: (Internal.heapK w.params).In s₁.heap) (g: s₁.heap.Ns mainGlobals mg) (b: s₁.heap.Ns builtinsNs mb) (bb: ∀ x: Str, x ≠ "__name__" → mb x = bootBuiltins x) (nl: s₁.heap.NoLimit) (ns: s₁.heap.NoSeer)
  (hW: Well w.params s₁.heap (.ref a) (ofPy (.list (is.map PyData.int)))) (his: is.length ≤ 100)
  (K: ∀ s', s' = { s₁ with heap := s'.heap, toks := s'.toks } → (∀ b o, s₁.heap.get? b = some o → s'.heap.get? b = some o) → Q' (.bool true) s') :
  wpAny (model prg w) callerA (call (.ref 300) [.ref a]) Q' E s₁ := by
 cases hW with | @list uu vs uu ha hvs => ?_
 have hd: ∀ es n, ({ cls := .type "list", data := .seq vs.toArray }: Obj).data ≠ .dict es n := fun es n q => by cases q
 have D: Wd w (without s₁.heap a) := by
  refine ⟨fun b o hb => ?_, ⟨mg, mb, Ns.without g ha hd, Ns.without b ha hd, bb⟩,?_,?_⟩
  ·have h1 := KX b o hb
   have: b ≠ a := fun q => by
    subst q
    rw [ha] at h1
    have h2 := List.all_eq_true.mp (frag_nolist w.params) _ (frag_mem hb)
    obtain rfl := Option.some.inj h1
    simp at h2
   exact (without_ne this).trans h1
  ·obtain ⟨mc, h1, h2⟩ := nl
   exact ⟨mc, Ns.without h1 ha hd, h2⟩
  ·obtain ⟨⟨m1, a1, a2⟩, ⟨m2, b1, b2⟩, ⟨m3, c1, c2⟩, ⟨m4, bm, ob, d1, d2, d3, d4, d5⟩⟩ := ns
   refine ⟨⟨m1, Ns.without a1 ha hd, a2⟩, ⟨m2, Ns.without b1 ha hd, b2⟩, ⟨m3, Ns.without c1 ha hd, c2⟩, ⟨m4, bm, ob, Ns.without d1 ha hd, d2,?_, d4, d5⟩⟩
   have: bm ≠ a := fun q => by subst q; rw [ha] at d3; obtain rfl := Option.some.inj d3; exact absurd (Value.type.inj d4) (by decide)
   exact (without_ne this).trans d3
 have hlow: sysModules < a := by
  obtain ⟨m2, b1, uu⟩ := ns.mods
  have e1 := Ns.ne b1 ha hd
  have e0 := Ns.ne b ha hd
  have e1': (1: Nat) ≠ a := e1
  have e0': (0: Nat) ≠ a := e0
  show (1: Nat) < a
  lia
 have S: HS w (without s₁.heap a) [] ⟨fun b => if b = a then some (.list (is.map V.int)) else none, fun uu => 0⟩ s₁ := by
  have one: ∀ {b: Addr}, (if b = a then some (MO.list (is.map V.int)) else none) ≠ none → b = a := fun {b} h => by
   by_cases q: b = a
   ·exact q
   ·rw [if_neg q] at h; exact absurd rfl h
  have two: ∀ {b: Addr} {mo: MO}, (if b = a then some (MO.list (is.map V.int)) else none) = some mo → b = a ∧ mo = .list (is.map V.int) := fun {b mo} h => by
   by_cases q: b = a
   ·rw [if_pos q] at h; obtain rfl := Option.some.inj h; exact ⟨q, rfl⟩
   ·rw [if_neg q] at h; exact nsF h
  refine ⟨fun b o e => (without_some e).2, fun b e => ?_, fun b mo e => ?_, trivial, (fun env he => nomatch he), (fun env he => nomatch he), fun b e => ?_,?_, fun b e => ?_⟩
  ·rw [one e]; exact without_at ..
  ·obtain ⟨rfl, rfl⟩ := two e
   exact ⟨vs, ⟨0, ha⟩, wells_ints hvs⟩
  ·rw [one e]; exact Heap.lt_size ha
  ·exact Nat.lt_trans hlow (Heap.lt_size ha)
  ·rw [one e]; exact hlow
 refine call_law (d := 0) D ⟨rfl, rfl, by show callerA.depth + 14 ≤ 800; decide, by show callerA.units + 4 * 14 ≤ 9000; decide⟩ S (.ref a) (show (if a = a then some (MO.list (is.map V.int)) else none) = _ from if_pos rfl) his P fun s' H' gr S' hv => ?_
 refine K s' gr.same fun c o e => ?_
 by_cases q: c = a
 ·subst q
  exact gr.ext.same c o e (show (if c = c then some (MO.list (is.map V.int)) else none) ≠ none by rw [if_pos rfl]; simp) hv
 ·exact S'.base c o ((without_ne q).trans e)
theorem holds_of (P: ∀ o ps f g, (ps.length = 2 ∨ ps.length = 3) → (∀ p ∈ ps, StartP p) → StartP f → ps[0]? = some g → LawOk o ps f g): PySem.Challenge.rw_pf0049_01.Holds := by
 refine Internal.hd fun d hd0 => ?_
 cases hd0
 k_fill
 intro w s₀ s₁ mg mb G Y fa o pm cd doc dV kV ho hd hcd hD hmg hg args vals as hpre hlay hrd hwl hlo
 have KX := kIn_of Y
 have X := (Ground.X G).1
 have V := (Ground.X G).2
 refine Ground.open G ?_
 intro T B D TE TW
 have hfa: fa = 300 := by
  have h1: mg "law" = some (.ref 300) := mg_of KX T.g rfl
  have h2: mg "law" = some (.ref fa) := hmg
  rw [h1] at h2; cases h2; rfl
 subst hfa
 clear hmg ho hcd hD hd X V B D TE TW
 wrow_args hpre hlay hrd hwl hlo
 have hs := ‹Spec.Shape.int.list.has _ = true›
 have w1 := ‹Well w.params s₁.heap _ (ofPy (PyData.list _))›
 have hc := ‹¬ ((63: Nat): Int) < _›
 refine law_top P KX T.g T.b T.builtins T.nolimit (T.seer (by decide +kernel)) w1 ?_ fun s' e1 e2 => ?_
 ·lia
 ·refine ⟨.inl ⟨.bool true, .bool true, [], rfl, fun uu => rfl, .bool true, (by first | kernel_rfl | decide | (simp [PySem.Challenge.rw_pf0049_01, OpenLaw.row]; done)), fun uu => ⟨List.nodup_nil, fun a ha => by cases ha⟩⟩, OldK.of_keep e2, by rw [e1],?_⟩
  rw [e1]
  exact .of_eq hg
end Mine.Internal
end
section
namespace Mine.Internal.Pl
theorem hide {g: Prop} (h: ∀ G: Prop, (g → G) → G): g := h g id
theorem ltM_lex (a b: Mo): ltM .lex a b = true ↔ (a.1 < b.1 ∨ (a.1 = b.1 ∧ a.2 < b.2)) := by simp [ltM]
theorem ltM_gr (a b: Mo): ltM .grlex a b = true ↔ (a.1 + a.2 < b.1 + b.2 ∨ (a.1 + a.2 = b.1 + b.2 ∧ (a.1 < b.1 ∨ (a.1 = b.1 ∧ a.2 < b.2)))) := by simp [ltM]
theorem grev_iff {a b c d: Nat} (h: a + b = c + d): (d < b ∨ (b = d ∧ c < a)) ↔ (a < c ∨ (a = c ∧ b < d)) := by
 constructor
 ·rintro (q | ⟨q, r⟩)
  ·exact .inl (by lia)
  ·subst q; exact absurd (Nat.add_right_cancel h) (Nat.ne_of_gt r)
 ·rintro (q | ⟨q, r⟩)
  ·exact .inl (by lia)
  ·subst q; exact absurd (Nat.add_left_cancel h) (Nat.ne_of_lt r)
theorem ltM_grev (a b: Mo): ltM .grevlex a b = true ↔ (a.1 + a.2 < b.1 + b.2 ∨ (a.1 + a.2 = b.1 + b.2 ∧ (a.1 < b.1 ∨ (a.1 = b.1 ∧ a.2 < b.2)))) := by
 simp only [ltM, Bool.or_eq_true, Bool.and_eq_true, decide_eq_true_eq]
 exact or_congr_right (and_congr_right grev_iff)
theorem lexP {a b c: Nat} {P Q R: Prop} (h1: a < b ∨ a = b ∧ P) (h2: b < c ∨ b = c ∧ Q) (k: P → Q → R): a < c ∨ a = c ∧ R := by
 rcases h1 with h1 | ⟨rfl, p⟩
 ·rcases h2 with h2 | ⟨rfl, q⟩
  ·exact .inl (Nat.lt_trans h1 h2)
  ·exact .inl h1
 ·rcases h2 with h2 | ⟨rfl, q⟩
  ·exact .inl h2
  ·exact .inr ⟨rfl, k p q⟩
theorem lexI {a: Nat} {P: Prop} (h: ¬ P): ¬ (a < a ∨ a = a ∧ P) := fun q => q.elim (Nat.lt_irrefl _) fun q => h q.2
theorem lexT {a b: Nat} {P Q R: Prop} (k: a = b → P ∨ Q ∨ R): (a = b ∧ P) ∨ (a < b ∨ a = b ∧ Q) ∨ (b < a ∨ b = a ∧ R) := by
 rcases Nat.lt_trichotomy a b with q | q | q
 ·exact .inr (.inl (.inl q))
 ·rcases k q with p | p | p
  ·exact .inl ⟨q, p⟩
  ·exact .inr (.inl (.inr ⟨q, p⟩))
  ·exact .inr (.inr (.inr ⟨q.symm, p⟩))
 ·exact .inr (.inr (.inl q))
theorem lexA {a b u a' b': Nat} {P Q: Prop} (ha: a' = u + a) (hb: b' = u + b) (h: a < b ∨ a = b ∧ P) (k: P → Q): a' < b' ∨ a' = b' ∧ Q := by
 subst ha; subst hb
 exact h.imp (fun q => Nat.add_lt_add_left q _) fun q => ⟨congrArg _ q.1, k q.2⟩
noncomputable def ky (o: Od) (a: Mo): Nat × Nat × Nat := match o with
 | .lex => (0, a.1, a.2)
 | _ => (a.1 + a.2, a.1, a.2)
theorem len2 {α: Type} {f: List α} (h: f.length ≤ 2): f = [] ∨ (∃ x, f = [x]) ∨ ∃ x y, f = [x, y] := by
 cases f with
 | nil => exact .inl rfl
 | cons x f => cases f with
  | nil => exact .inr (.inl ⟨x, rfl⟩)
  | cons y f => cases f with
   | nil => exact .inr (.inr ⟨x, y, rfl⟩)
   | cons z f => exact absurd h (Nat.not_le.mpr (Nat.succ_le_succ (Nat.succ_le_succ (Nat.succ_le_succ (Nat.zero_le _)))))
theorem mo_eq {a b: Mo}: a = b ↔ a.1 = b.1 ∧ a.2 = b.2 := Prod.ext_iff
theorem mdiv_iff (a b: Mo): mdiv a b = true ↔ a.1 ≤ b.1 ∧ a.2 ≤ b.2 := by simp [mdiv]
noncomputable def lt (o: Od) (a b: Mo): Prop := ltM o a b = true
theorem lt_iff {o: Od} {a b: Mo}: lt o a b ↔ ((ky o a).1 < (ky o b).1 ∨ (ky o a).1 = (ky o b).1 ∧ (a.1 < b.1 ∨ a.1 = b.1 ∧ a.2 < b.2)) := by
 cases o with
 | lex => exact (ltM_lex a b).trans ⟨fun h => .inr ⟨rfl, h⟩, fun h => h.elim (fun q => absurd q (Nat.lt_irrefl _)) fun q => q.2⟩
 | grlex => exact ltM_gr a b
 | grevlex => exact ltM_grev a b
theorem lt_irr' (o: Od) (a: Mo): ¬ lt o a a := fun h => lexI (lexI (Nat.lt_irrefl _)) (lt_iff.mp h)
theorem lt_trans' {o: Od} {a b c: Mo} (h1: lt o a b) (h2: lt o b c): lt o a c :=
 lt_iff.mpr (lexP (lt_iff.mp h1) (lt_iff.mp h2) fun p q => lexP p q Nat.lt_trans)
theorem lt_total (o: Od) (a b: Mo): a = b ∨ lt o a b ∨ lt o b a := by
 rcases lexT (a := (ky o a).1) (b := (ky o b).1) (P := a = b) (fun uu => (lexT (a := a.1) (b := b.1) fun uu => (Nat.lt_trichotomy a.2 b.2).elim (fun q => .inr (.inl q)) fun q => q.elim .inl fun q => .inr (.inr q)).imp_left fun q => mo_eq.mpr q) with q | q
 ·exact .inl q.2
 ·exact .inr (q.imp lt_iff.mpr lt_iff.mpr)
theorem lt_asymm {o: Od} {a b: Mo} (h1: lt o a b): ¬ lt o b a := fun h2 => lt_irr' o a (lt_trans' h1 h2)
theorem ky_plus (o: Od) (u a: Mo): (ky o (mP u a)).1 = (ky o u).1 + (ky o a).1 := by
 cases o with
 | lex => rfl
 | grlex => exact Nat.add_add_add_comm ..
 | grevlex => exact Nat.add_add_add_comm ..
theorem lt_plus {o: Od} {a b: Mo} (u: Mo) (h: lt o a b): lt o (mP u a) (mP u b) :=
 lt_iff.mpr (lexA (ky_plus ..) (ky_plus ..) (lt_iff.mp h) fun p => lexA rfl rfl p fun q => Nat.add_lt_add_left q _)
theorem lt_of_dvd {o: Od} {a b: Mo} (h: mdiv a b = true): ¬ lt o b a := by
 obtain ⟨h1, h2⟩ := (mdiv_iff a b).mp h
 have hk: (ky o a).1 ≤ (ky o b).1 := by
  cases o with
  | lex => exact Nat.le_refl _
  | grlex => exact Nat.add_le_add h1 h2
  | grevlex => exact Nat.add_le_add h1 h2
 intro q
 rcases lt_iff.mp q with q | ⟨uu, q | ⟨uu, q⟩⟩
 ·exact absurd q (Nat.not_lt.mpr hk)
 ·exact absurd q (Nat.not_lt.mpr h1)
 ·exact absurd q (Nat.not_lt.mpr h2)
theorem nlt_trans {o: Od} {a b c: Mo} (h1: ¬ lt o b a) (h2: lt o b c): lt o a c := by
 rcases lt_total o a b with rfl | h | h
 ·exact h2
 ·exact lt_trans' h h2
 ·exact absurd h h1
theorem lt_nlt {o: Od} {a b c: Mo} (h1: lt o a b) (h2: ¬ lt o c b): lt o a c := by
 rcases lt_total o b c with rfl | h | h
 ·exact h1
 ·exact lt_trans' h1 h
 ·exact absurd h h2
theorem nlt_nlt {o: Od} {a b c: Mo} (h1: ¬ lt o b a) (h2: ¬ lt o c b): ¬ lt o c a := fun h => h2 (lt_nlt h h1)
theorem mplus_minus {u m: Mo} (h: mdiv u m = true): mP u (mM m u) = m :=
 mo_eq.mpr ⟨Nat.add_sub_cancel' ((mdiv_iff u m).mp h).1, Nat.add_sub_cancel' ((mdiv_iff u m).mp h).2⟩
theorem mplus_comm (a b: Mo): mP a b = mP b a := mo_eq.mpr ⟨Nat.add_comm .., Nat.add_comm ..⟩
theorem mplus_assoc (a b c: Mo): mP (mP a b) c = mP a (mP b c) := mo_eq.mpr ⟨Nat.add_assoc .., Nat.add_assoc ..⟩
theorem mplus_inj {u a b: Mo} (h: mP u a = mP u b): a = b := mo_eq.mpr ⟨Nat.add_left_cancel (mo_eq.mp h).1, Nat.add_left_cancel (mo_eq.mp h).2⟩
theorem nsub {a b c: Nat}: a + b = c ↔ b ≤ c ∧ a = c - b := ⟨fun h => h ▸ ⟨Nat.le_add_left .., (Nat.add_sub_cancel ..).symm⟩, fun h => h.2 ▸ Nat.sub_add_cancel h.1⟩
theorem ndvd {a b c: Nat}: a + b ≤ c ↔ a ≤ c ∧ b ≤ c - a := ⟨fun h => ⟨Nat.le_trans (Nat.le_add_right ..) h, Nat.le_sub_of_add_le (Nat.add_comm a b ▸ h)⟩, fun h => by lia⟩
theorem napart {a b: Nat} (h: min a b = 0): max a b - a = b ∧ max a b - b = a ∧ max a b = a + b := by
 rcases Nat.le_total a b with q | q
 ·rw [Nat.min_eq_left q] at h; subst h; rw [Nat.max_eq_right q]; simp
 ·rw [Nat.min_eq_right q] at h; subst h; rw [Nat.max_eq_left q]; simp
noncomputable def okey (o: Od) (a: Mo): Nat × Nat := match o with
 | .lex => a
 | _ => (a.1 + a.2, a.1)
theorem lt_key {o: Od} {a b: Mo} (h: lt o a b): Prod.Lex (· < ·) (· < ·) (okey o a) (okey o b) := by
 have key: ∀ x y: Nat × Nat, (x.1 < y.1 ∨ (x.1 = y.1 ∧ x.2 < y.2)) → Prod.Lex (· < ·) (· < ·) x y := by
  rintro ⟨x1, x2⟩ ⟨y1, y2⟩ (h | ⟨h1, h2⟩)
  ·exact .left _ _ h
  ·simp at h1; subst h1; exact .right _ h2
 apply key
 cases o <;> simp only [lt, ltM_lex, ltM_gr, ltM_grev, okey] at * <;> lia
theorem lt_wf (o: Od): WellFounded (lt o) :=
 Subrelation.wf (fun h => lt_key h) (InvImage.wf (okey o) (Prod.lex Nat.lt_wfRel Nat.lt_wfRel).wf)
theorem lead_max {o: Od} {p: Po} {l: Mo × Rat} (h: lead o p = some l): ∀ e ∈ p, ¬ lt o l.1 e.1 := by
 unfold lead at h
 have: ∀ (p: Po) (b: Option (Mo × Rat)), p.foldl (better o) b = some l → (∀ b', b = some b' → ¬ lt o l.1 b'.1) ∧ ∀ e ∈ p, ¬ lt o l.1 e.1 := by
  intro p
  induction p with
  | nil => intro b h; simp at h; subst h; exact ⟨fun b' q => by cases q; exact lt_irr' o _, by simp⟩
  | cons e p ih =>
   intro b h
   obtain ⟨h1, h2⟩ := ih _ h
   have he: ¬ lt o l.1 e.1 ∧ ∀ b', b = some b' → ¬ lt o l.1 b'.1 := by
    cases b with
    | none => exact ⟨h1 e rfl, fun b' q => by cases q⟩
    | some b =>
     simp only [better] at h1
     by_cases q: ltM o b.1 e.1 = true
     ·rw [if_pos q] at h1
      have h3 := h1 e rfl
      exact ⟨h3, fun b' q2 => by cases q2; exact fun h4 => h3 (lt_trans' h4 q)⟩
     ·rw [if_neg q] at h1
      have h3 := h1 b rfl
      refine ⟨fun h4 => ?_, fun b' q2 => by cases q2; exact h3⟩
      exact h3 (lt_nlt h4 q)
   refine ⟨he.2, fun x hx => ?_⟩
   rcases List.mem_cons.mp hx with rfl | hx
   ·exact he.1
   ·exact h2 x hx
 exact (this p none h).2
theorem lead_lt {o: Od} {p: Po} {l: Mo × Rat} (hn: (p.map (·.1)).Nodup) (h: lead o p = some l) {e: Mo × Rat} (he: e ∈ p): e = l ∨ lt o e.1 l.1 := by
 rcases lt_total o e.1 l.1 with q | q | q
 ·have h1 := pg_mem hn he
  have h2 := pg_mem hn (lead_mem h)
  rw [q, h2] at h1
  exact .inl (Prod.ext q (Option.some.inj h1).symm)
 ·exact .inr q
 ·exact absurd q (lead_max h e he)
theorem lead_of {o: Od} {p: Po} {l: Mo × Rat} (hl: l ∈ p) (h: ∀ e ∈ p, e = l ∨ lt o e.1 l.1): lead o p = some l := by
 cases q: lead o p with
 | none => rw [lead_none.mp q] at hl; cases hl
 | some k =>
  rcases h k (lead_mem q) with e | e
  ·rw [e]
  ·exact absurd e (lead_max q l hl)
end Mine.Internal.Pl
end
section
namespace Mine.Internal.Pl
noncomputable abbrev Fn := Mo → Rat
noncomputable def ev (p: Po): Fn := fun k => (pg p k).getD 0
noncomputable def sh (u: Mo) (f: Fn): Fn := fun k => if mdiv u k = true then f (mM k u) else 0
noncomputable def rs (p: Po): Fn := fun k => (p.map fun e => if e.1 = k then e.2 else 0).sum
theorem ev_nil: ev [] = fun uu => 0 := rfl
theorem rs_nil: rs [] = fun uu => 0 := rfl
theorem rs_cons (e: Mo × Rat) (p: Po) (k: Mo): rs (e :: p) k = (if e.1 = k then e.2 else 0) + rs p k := by simp [rs]
theorem rs_append (p q: Po) (k: Mo): rs (p ++ q) k = rs p k + rs q k := by
 induction p with
 | nil => show rs q k = 0 + rs q k; grind
 | cons e p ih => rw [List.cons_append, rs_cons, rs_cons, ih]; grind
theorem tot_ev (p: Po) (m: Mo) (c: Rat): tot p m c = ev p m + c := by
 unfold tot ev
 cases pg p m with
 | none => simp; grind
 | some q => rfl
theorem ev_addT (p: Po) (m: Mo) (c: Rat) (k: Mo): ev (addT p m c) k = ev p k + (if m = k then c else 0) := by
 show (pg (addT p m c) k).getD 0 = _
 rw [pg_addT]
 by_cases h: k = m
 ·subst h
  rw [if_pos rfl, if_pos rfl, tot_ev]
  by_cases z: ev p k + c = 0
  ·rw [if_pos z, z]; rfl
  ·rw [if_neg z]; rfl
 ·rw [if_neg h, if_neg (fun q => h q.symm)]
  show ev p k = ev p k + 0
  grind
theorem ev_addL (a b: Po) (k: Mo): ev (addL a b) k = ev a k + rs b k := by
 induction b generalizing a with
 | nil => show ev a k = ev a k + 0; grind
 | cons e b ih =>
  show ev (addL (addT a e.1 e.2) b) k = _
  rw [ih, ev_addT, rs_cons]; grind
theorem rs_ev {p: Po} (hn: (p.map (·.1)).Nodup): rs p = ev p := by
 funext k
 induction p with
 | nil => rfl
 | cons e p ih =>
  rw [List.map_cons, List.nodup_cons] at hn
  rw [rs_cons, ih hn.2]
  show _ = (pg (e :: p) k).getD 0
  rw [pg_cons]
  by_cases h: e.1 = k
  ·rw [if_pos h, if_pos h]
   have: pg p k = none := pg_none.mpr (by rw [← h]; exact hn.1)
   show e.2 + (pg p k).getD 0 = e.2
   rw [this]
   show e.2 + 0 = e.2
   grind
  ·rw [if_neg h, if_neg h]
   show 0 + ev p k = ev p k
   grind
theorem rs_negP (p: Po) (k: Mo): rs (negP p) k = - rs p k := by
 induction p with
 | nil => show (0: Rat) = -0; grind
 | cons e p ih =>
  have: negP (e :: p) = (e.1, -e.2) :: negP p := rfl
  rw [this, rs_cons, rs_cons, ih]
  by_cases h: e.1 = k <;> simp only [h, if_true, if_false] <;> grind
theorem ev_subP (a b: Po) (k: Mo): ev (subP a b) k = ev a k - rs b k := by
 unfold subP; rw [ev_addL, rs_negP]; grind
theorem shift_key {u k m: Mo}: (mP m u = k) ↔ (mdiv u k = true ∧ m = mM k u) := by
 rw [mdiv_iff, mo_eq, mo_eq]
 exact (and_congr nsub nsub).trans ⟨fun h => ⟨⟨h.1.1, h.2.1⟩, h.1.2, h.2.2⟩, fun h => ⟨⟨h.1.1, h.2.1⟩, h.1.2, h.2.2⟩⟩
theorem rs_shiftP (p: Po) (u: Mo) {r: Rat} (hr: r ≠ 0) (k: Mo): rs (shiftP p u r) k = r * sh u (rs p) k := by
 unfold shiftP; rw [if_neg hr]
 induction p with
 | nil => show (0: Rat) = r * (if mdiv u k = true then 0 else 0); split <;> grind
 | cons e p ih =>
  rw [List.map_cons, rs_cons, ih]
  show _ = r * (if mdiv u k = true then rs (e :: p) (mM k u) else 0)
  show (if mP e.1 u = k then e.2 * r else 0) + r * (if mdiv u k = true then rs p (mM k u) else 0) = _
  rw [rs_cons]
  by_cases h: mdiv u k = true
  ·simp only [shift_key, h, true_and, if_true]
   by_cases h2: e.1 = mM k u <;> simp only [h2, if_true, if_false] <;> grind
  ·simp only [shift_key, h, false_and, if_false]; grind
theorem shiftP_keys {p: Po} (hn: (p.map (·.1)).Nodup) (u: Mo) (r: Rat): ((shiftP p u r).map (·.1)).Nodup := by
 unfold shiftP
 split
 ·simp
 ·rw [List.map_map]
  have: ((fun x: Mo × Rat => x.1) ∘ fun e: Mo × Rat => (mP e.1 u, e.2 * r)) = (fun m => mP m u) ∘ (fun e: Mo × Rat => e.1) := rfl
  rw [this, ← List.map_map]
  exact List.Pairwise.map _ (fun a b hab q => hab (mplus_inj (by rw [mplus_comm u a, mplus_comm u b]; exact q))) hn
theorem ev_mem {p: Po} (hn: (p.map (·.1)).Nodup) {e: Mo × Rat} (he: e ∈ p): ev p e.1 = e.2 := by
 show (pg p e.1).getD 0 = _
 rw [pg_mem hn he]; rfl
theorem ev_ne {p: Po} {k: Mo} (h: ev p k ≠ 0): ∃ c, (k, c) ∈ p := by
 cases q: pg p k with
 | none => exact absurd (show ev p k = 0 by show (pg p k).getD 0 = 0; rw [q]; rfl) h
 | some c => exact ⟨c, pg_some q⟩
theorem ev_zero {p: Po} (hw: Wf p) (h: ∀ k, ev p k = 0): p = [] := by
 cases p with
 | nil => rfl
 | cons e p =>
  exfalso
  have := ev_mem hw.1 (List.mem_cons_self (a := e) (l := p))
  rw [h] at this
  exact hw.2 e (.head _) this.symm
theorem nodup_le {α: Type} [DecidableEq α]: ∀ {l l': List α}, l.Nodup → l ⊆ l' → l.length ≤ l'.length
 | [], _, _, _ => Nat.zero_le _
 | a :: l, l', hn, hs => by
  rw [List.nodup_cons] at hn
  have ha: a ∈ l' := hs (.head _)
  have h2: l ⊆ l'.erase a := fun x hx => by
   have hne: x ≠ a := fun q => hn.1 (q ▸ hx)
   exact (List.mem_erase_of_ne hne).mpr (hs (.tail _ hx))
  have := nodup_le hn.2 h2
  rw [List.length_erase_of_mem ha] at this
  have := List.length_pos_of_mem ha
  simp only [List.length_cons]; lia
theorem same_of_ev {p q: Po} (hp: Wf p) (hq: Wf q) (h: ∀ k, ev p k = ev q k): SameP p q := by
 have sub: ∀ {p q: Po}, Wf p → Wf q → (∀ k, ev p k = ev q k) → ∀ e ∈ p, pg q e.1 = some e.2 := by
  intro p q hp hq h e he
  have h1 := ev_mem hp.1 he
  rw [h] at h1
  have h2: ev q e.1 ≠ 0 := by rw [h1]; exact hp.2 e he
  obtain ⟨c, hc⟩ := ev_ne h2
  have h3 := ev_mem hq.1 hc
  have: c = e.2 := h3.symm.trans h1
  rw [← this]
  exact pg_mem hq.1 hc
 have keys: ∀ {p q: Po}, Wf p → Wf q → (∀ k, ev p k = ev q k) → (p.map (·.1)) ⊆ (q.map (·.1)) := by
  intro p q hp hq h k hk
  obtain ⟨e, he, rfl⟩ := List.mem_map.mp hk
  exact List.mem_map.mpr ⟨_, pg_some (sub hp hq h e he), rfl⟩
 refine ⟨?_, sub hp hq h⟩
 have l1 := nodup_le hp.1 (keys hp hq h)
 have l2 := nodup_le hq.1 (keys hq hp (fun k => (h k).symm))
 simp only [List.length_map] at l1 l2
 lia
end Mine.Internal.Pl
end
section
namespace Mine.Internal.Pl
theorem sh_add (u: Mo) (f g: Fn) (k: Mo): sh u (fun m => f m + g m) k = sh u f k + sh u g k := by
 unfold sh; split <;> grind
theorem sh_mul (u: Mo) (c: Rat) (f: Fn) (k: Mo): sh u (fun m => c * f m) k = c * sh u f k := by
 unfold sh; split <;> grind
theorem sh_sh (u v: Mo) (f: Fn): sh u (sh v f) = sh (mP u v) f := by
 funext k
 unfold sh
 have e: mdiv (mP u v) k = true ↔ mdiv u k = true ∧ mdiv v (mM k u) = true := by
  rw [mdiv_iff, mdiv_iff, mdiv_iff]
  exact (and_congr ndvd ndvd).trans ⟨fun h => ⟨⟨h.1.1, h.2.1⟩, h.1.2, h.2.2⟩, fun h => ⟨⟨h.1.1, h.2.1⟩, h.1.2, h.2.2⟩⟩
 have e2: mM (mM k u) v = mM k (mP u v) := mo_eq.mpr ⟨Nat.sub_sub .., Nat.sub_sub ..⟩
 by_cases h1: mdiv u k = true
 ·by_cases h2: mdiv v (mM k u) = true
  ·rw [if_pos h1, if_pos h2, if_pos (e.mpr ⟨h1, h2⟩), e2]
  ·rw [if_pos h1, if_neg h2, if_neg (fun q => h2 (e.mp q).2)]
 ·rw [if_neg h1, if_neg (fun q => h1 (e.mp q).1)]
theorem sh_zero (u: Mo): sh u (fun uu => 0) = fun uu => 0 := by funext k; unfold sh; split <;> rfl
inductive Sp (o: Od) (G: List Po) (P: Mo → Prop): Fn → Prop
 | zero: Sp o G P (fun uu => 0)
 | step {f: Fn} (c: Rat) (u: Mo) {g: Po} {l: Mo × Rat}: g ∈ G → lead o g = some l → P (mP u l.1) → Sp o G P f → Sp o G P (fun k => f k + c * sh u (ev g) k)
section
variable {o: Od} {G: List Po} {P P': Mo → Prop} {f f': Fn}
theorem Sp.cast (h: Sp o G P f) (e: ∀ k, f' k = f k): Sp o G P f' := by
 have: f' = f := funext e
 rw [this]; exact h
theorem Sp.mono (h: Sp o G P f) (hp: ∀ m, P m → P' m): Sp o G P' f := by
 induction h with
 | zero => exact .zero
 | step c u hg hl hP uu ih => exact .step c u hg hl (hp _ hP) ih
theorem Sp.grow {G': List Po} (h: Sp o G P f) (hg: ∀ g ∈ G, g ∈ G'): Sp o G' P f := by
 induction h with
 | zero => exact .zero
 | step c u hg' hl hP uu ih => exact .step c u (hg _ hg') hl hP ih
theorem Sp.add (h: Sp o G P f) (h': Sp o G P f'): Sp o G P (fun k => f k + f' k) := by
 induction h' with
 | zero => exact h.cast fun k => by grind
 | step c u hg hl hP uu ih => exact (Sp.step c u hg hl hP ih).cast fun k => by grind
theorem Sp.mul (c: Rat) (h: Sp o G P f): Sp o G P (fun k => c * f k) := by
 induction h with
 | zero => exact Sp.zero.cast fun k => by grind
 | step c' u hg hl hP uu ih => exact (Sp.step (c * c') u hg hl hP ih).cast fun k => by grind
theorem Sp.sub (h: Sp o G P f) (h': Sp o G P f'): Sp o G P (fun k => f k - f' k) :=
 (h.add (h'.mul (-1))).cast fun k => by grind
theorem Sp.one (c: Rat) (u: Mo) {g: Po} {l: Mo × Rat} (hg: g ∈ G) (hl: lead o g = some l) (hP: P (mP u l.1)): Sp o G P (fun k => c * sh u (ev g) k) :=
 (Sp.step c u hg hl hP .zero).cast fun k => by grind
theorem Sp.shift (w: Mo) (h: Sp o G P f) (hp: ∀ m, P m → P' (mP w m)): Sp o G P' (sh w f) := by
 induction h with
 | zero => exact Sp.zero.cast fun k => by rw [sh_zero]
 | @step f c u g l hg hl hP uu ih =>
  refine (Sp.step c (mP w u) hg hl (by rw [mplus_assoc]; exact hp _ hP) ih).cast fun k => ?_
  rw [sh_add, sh_mul, sh_sh]
theorem sh_lead_zero {g: Po} {l: Mo × Rat} (hn: (g.map (·.1)).Nodup) (hl: lead o g = some l) {u k: Mo} (h: lt o (mP u l.1) k): sh u (ev g) k = 0 := by
 unfold sh
 split
 ·rename_i hd
  cases Classical.em (ev g (mM k u) = 0) with
  | inl q => exact q
  | inr q =>
   exfalso
   obtain ⟨c, hc⟩ := ev_ne q
   have h1 := lead_max hl _ hc
   have h2: mP u (mM k u) = k := mplus_minus hd
   rcases lead_lt hn hl hc with e | e
   ·rw [← e, h2] at h; exact lt_irr' o k h
   ·have h3 := lt_plus u e
    simp only at h3
    rw [h2] at h3
    exact lt_asymm h h3
 ·rfl
theorem sh_lead_at {g: Po} {l: Mo × Rat} (hn: (g.map (·.1)).Nodup) (hl: lead o g = some l) (u: Mo): sh u (ev g) (mP u l.1) = l.2 := by
 unfold sh
 have h1: mdiv u (mP u l.1) = true := (mdiv_iff _ _).mpr ⟨Nat.le_add_right .., Nat.le_add_right ..⟩
 have h2: mM (mP u l.1) u = l.1 := mo_eq.mpr ⟨Nat.add_sub_cancel_left .., Nat.add_sub_cancel_left ..⟩
 rw [if_pos h1, h2]
 exact ev_mem hn (lead_mem hl)
theorem Sp.above (hG: ∀ g ∈ G, (g.map (·.1)).Nodup) (h: Sp o G P f) {k: Mo} (hk: ∀ m, P m → lt o m k): f k = 0 := by
 induction h with
 | zero => rfl
 | @step f c u g l hg hl hP uu ih => show f k + c * sh u (ev g) k = 0; rw [ih, sh_lead_zero (hG g hg) hl (hk _ hP)]; grind
theorem Sp.top (h: Sp o G P f): (∀ k, f k = 0) ∨ ∃ m, P m ∧ Sp o G (fun x => ¬ lt o m x) f := by
 induction h with
 | zero => exact .inl fun uu => rfl
 | @step f c u g l hg hl hP h0 ih =>
  refine .inr ?_
  rcases ih with ih | ⟨m, hm, ih⟩
  ·refine ⟨_, hP, ((Sp.one (P := fun x => ¬ lt o (mP u l.1) x) c u hg hl (lt_irr' o _))).cast fun k => ?_⟩
   rw [ih]; grind
  ·by_cases q: lt o m (mP u l.1)
   ·exact ⟨_, hP, .step c u hg hl (lt_irr' o _) (ih.mono fun x hx hx2 => hx (lt_trans' q hx2))⟩
   ·exact ⟨m, hm, .step c u hg hl q ih⟩
noncomputable def Rel (o: Od) (G: List Po) (m: Mo) (f g: Po): Prop :=
 ∃ lf lg, lead o f = some lf ∧ lead o g = some lg ∧ mdiv lf.1 m = true ∧ mdiv lg.1 m = true ∧ Sp o G (fun x => lt o x m) (fun k => sh (mM m lf.1) (ev f) k - sh (mM m lg.1) (ev g) k)
theorem Rel.up {m w: Mo} {f g: Po} (h: Rel o G m f g): Rel o G (mP w m) f g := by
 refine hide fun gg kk => ?_
 obtain ⟨lf, lg, h1, h2, h3, h4, h5⟩ := h
 refine kk ?_
 have d: ∀ {l: Mo}, mdiv l m = true → mdiv l (mP w m) = true ∧ mM (mP w m) l = mP w (mM m l) := by
  intro l hl
  obtain ⟨q1, q2⟩ := (mdiv_iff _ _).mp hl
  exact ⟨(mdiv_iff _ _).mpr ⟨Nat.le_trans q1 (Nat.le_add_left ..), Nat.le_trans q2 (Nat.le_add_left ..)⟩, mo_eq.mpr ⟨Nat.add_sub_assoc q1 _, Nat.add_sub_assoc q2 _⟩⟩
 refine ⟨lf, lg, h1, h2, (d h3).1, (d h4).1, (h5.shift w (P' := fun x => lt o x (mP w m)) fun x hx => lt_plus w hx).cast fun k => ?_⟩
 rw [(d h3).2, (d h4).2, ← sh_sh, ← sh_sh]
 unfold sh; split <;> grind
theorem Rel.of_dvd {j m: Mo} {f g: Po} (h: Rel o G j f g) (hd: mdiv j m = true): Rel o G m f g := by
 have := h.up (w := mM m j)
 rw [mplus_comm, mplus_minus hd] at this; exact this
theorem Rel.symm {m: Mo} {f g: Po} (h: Rel o G m f g): Rel o G m g f := by
 refine hide fun gg kk => ?_
 obtain ⟨lf, lg, h1, h2, h3, h4, h5⟩ := h
 refine kk ?_
 exact ⟨lg, lf, h2, h1, h4, h3, (h5.mul (-1)).cast fun k => by grind⟩
theorem Rel.refl {m: Mo} {f: Po} {l: Mo × Rat} (h: lead o f = some l) (hd: mdiv l.1 m = true): Rel o G m f f :=
 ⟨l, l, h, h, hd, hd, Sp.zero.cast fun k => by grind⟩
theorem Rel.trans {m: Mo} {f g e: Po} (h: Rel o G m f g) (h': Rel o G m g e): Rel o G m f e := by
 refine hide fun gg kk => ?_
 obtain ⟨lf, lg, h1, h2, h3, h4, h5⟩ := h
 obtain ⟨lg', le, k1, k2, k3, k4, k5⟩ := h'
 refine kk ?_
 rw [h2] at k1; cases k1
 exact ⟨lf, le, h1, k2, h3, k4, (h5.add k5).cast fun k => by grind⟩
theorem Rel.grow {m: Mo} {f g: Po} {G': List Po} (h: Rel o G m f g) (hg: ∀ g ∈ G, g ∈ G'): Rel o G' m f g := by
 refine hide fun gg kk => ?_
 obtain ⟨lf, lg, h1, h2, h3, h4, h5⟩ := h
 refine kk ?_
 exact ⟨lf, lg, h1, h2, h3, h4, h5.grow hg⟩
noncomputable def Good (o: Od) (G: List Po) (f g: Po): Prop := ∃ lf lg, lead o f = some lf ∧ lead o g = some lg ∧ Rel o G (mjoin lf.1 lg.1) f g
structure Monic (o: Od) (g: Po): Prop where
 wf: Wf g
 ld: ∃ m, lead o g = some (m, 1)
theorem join_dvd {a b m: Mo} (ha: mdiv a m = true) (hb: mdiv b m = true): mdiv (mjoin a b) m = true := by
 rw [mdiv_iff] at *; simp only [mjoin]; lia
inductive Spl (o: Od) (G: List Po) (m: Mo) (f: Fn): Prop
 | low (h: Sp o G (fun x => lt o x m) f)
 | top (c: Rat) (g: Po) (l: Mo × Rat) (hg: g ∈ G) (hl: lead o g = some l) (hd: mdiv l.1 m = true) (h: Sp o G (fun x => lt o x m) (fun k => f k - c * sh (mM m l.1) (ev g) k))
theorem Spl.of (hgood: ∀ f ∈ G, ∀ g ∈ G, Good o G f g) {f: Fn} {m: Mo} (h: Sp o G (fun x => ¬ lt o m x) f): Spl o G m f := by
 induction h with
 | zero => exact .low .zero
 | @step f c u g l hg hl hP h0 ih =>
  rcases lt_total o (mP u l.1) m with q | q | q
  ·have hd: mdiv l.1 m = true := by rw [← q, mdiv_iff]; simp only [mP]; lia
   have hu: u = mM m l.1 := by rw [← q, mo_eq]; simp only [mP, mM]; lia
   rcases ih with ih | ⟨c1, g1, l1, hg1, hl1, hd1, ih⟩
   ·refine .top c g l hg hl hd (ih.cast fun k => ?_)
    rw [hu]; grind
   ·obtain ⟨lf, lg, e1, e2, hr⟩ := hgood g hg g1 hg1
    rw [hl] at e1; cases e1
    rw [hl1] at e2; cases e2
    obtain ⟨uu, uu, e1, e2, uu, uu, hs⟩ := hr.of_dvd (join_dvd hd hd1)
    rw [hl] at e1; cases e1
    rw [hl1] at e2; cases e2
    refine .top (c1 + c) g1 l1 hg1 hl1 hd1 ((ih.add (hs.mul c)).cast fun k => ?_)
    rw [hu]; grind
  ·rcases ih with ih | ⟨c1, g1, l1, hg1, hl1, hd1, ih⟩
   ·exact .low (.step c u hg hl q ih)
   ·exact .top c1 g1 l1 hg1 hl1 hd1 ((Sp.step c u hg hl q ih).cast fun k => by grind)
  ·exact absurd q hP
theorem buchberger (hG: ∀ g ∈ G, Monic o g) (hgood: ∀ f ∈ G, ∀ g ∈ G, Good o G f g) {f: Fn} (m: Mo) (h: Sp o G (fun x => ¬ lt o m x) f) :
  (∀ k, f k = 0) ∨ ∃ k g l, g ∈ G ∧ lead o g = some l ∧ mdiv l.1 k = true ∧ f k ≠ 0 := by
 induction m using (lt_wf o).induction generalizing f with
 | _ m ih =>
 have low: ∀ {f: Fn}, Sp o G (fun x => lt o x m) f → (∀ k, f k = 0) ∨ ∃ k g l, g ∈ G ∧ lead o g = some l ∧ mdiv l.1 k = true ∧ f k ≠ 0 := fun hf => by
  rcases hf.top with q | ⟨m', hm', q⟩
  ·exact .inl q
  ·exact ih m' hm' q
 have split := Spl.of hgood h
 rcases split with q | ⟨c, g, l, hg, hl, hd, q⟩
 ·exact low q
 ·by_cases hc: c = 0
  ·exact low (q.cast fun k => by rw [hc]; grind)
  ·refine .inr ⟨m, g, l, hg, hl, hd,?_⟩
   have hz := q.above (k := m) (fun g hg => (hG g hg).wf.1) (fun uu h => h)
   have h1 := sh_lead_at (o := o) (hG g hg).wf.1 hl (mM m l.1)
   rw [mplus_comm, mplus_minus hd] at h1
   obtain ⟨uu, hm⟩ := (hG g hg).ld
   rw [hl] at hm; cases hm
   simp only at h1 hz
   rw [h1] at hz
   grind
end
end Mine.Internal.Pl
end
section
namespace Mine.Internal.Pl
noncomputable def clog (n: Nat): Nat := if n ≤ 1 then 0 else Nat.log2 (n - 1) + 1
theorem clog_le {n s: Nat}: clog n ≤ s ↔ n ≤ 2 ^ s := by
 unfold clog
 split
 ·have := Nat.one_le_two_pow (n := s)
  constructor <;> intro uu <;> lia
 ·rename_i h
  have h0: n - 1 ≠ 0 := by lia
  have := Nat.log2_lt (k := s) h0
  constructor
  ·intro h1
   have := this.mp (by assumption); lia
  ·intro h1
   have := this.mpr (by lia); assumption
noncomputable def sz (q: Rat): Nat := max (clog q.num.natAbs) (clog q.den)
theorem sz_le {q: Rat} {s: Nat}: sz q ≤ s ↔ Sz s q := by
 unfold sz Sz
 rw [← clog_le, ← clog_le]; lia
theorem Sz.self (q: Rat): Sz (sz q) q := sz_le.mp (Nat.le_refl _)
theorem sz_mul (a b: Rat): sz (a * b) ≤ sz a + sz b := sz_le.mpr ((Sz.self a).mul (Sz.self b))
theorem sz_add (a b: Rat): sz (a + b) ≤ sz a + sz b + 1 := sz_le.mpr ((Sz.self a).add (Sz.self b))
theorem sz_neg (a: Rat): sz (-a) ≤ sz a := sz_le.mpr (Sz.self a).neg
theorem sz_inv {a: Rat} (h: a ≠ 0): sz a⁻¹ ≤ sz a := sz_le.mpr ((Sz.self a).inv h)
theorem sz_div (a: Rat) {b: Rat} (h: b ≠ 0): sz (a / b) ≤ sz a + sz b := by
 rw [Rat.div_def]
 have h1 := sz_mul a b⁻¹
 have h2 := sz_inv h
 lia
theorem sz_one: sz 1 = 0 := by decide
theorem szB_of {q: Rat} (h: sz q ≤ 67000000): SzB q := ⟨sz q, h, (Sz.self q).1, (Sz.self q).2⟩
noncomputable def wt (p: Po): Nat := (p.map fun e => sz e.2 + 1).sum
theorem wt_nil: wt [] = 0 := rfl
theorem wt_cons (e: Mo × Rat) (p: Po): wt (e :: p) = sz e.2 + 1 + wt p := by simp [wt]
theorem wt_append (p q: Po): wt (p ++ q) = wt p + wt q := by simp [wt]
theorem wt_mem {p: Po} {e: Mo × Rat} (h: e ∈ p): sz e.2 + 1 ≤ wt p := by
 induction p with
 | nil => cases h
 | cons x p ih =>
  rw [wt_cons]
  rcases List.mem_cons.mp h with rfl | h
  ·exact Nat.le_add_right _ _
  ·have := ih h; exact Nat.le_trans ‹_› (Nat.le_add_left _ _)
theorem pd_cons (e: Mo × Rat) (p: Po) (m: Mo): pd (e :: p) m = if e.1 = m then pd p m else e :: pd p m := by
 unfold pd
 by_cases h: e.1 = m <;> simp [h]
theorem pd_none {p: Po} {m: Mo} (h: m ∉ p.map (·.1)): pd p m = p := by
 unfold pd
 rw [List.filter_eq_self]
 intro e he
 have: e.1 ≠ m := fun q => h (q ▸ List.mem_map_of_mem he)
 simpa using this
theorem wt_pd {p: Po} (hn: (p.map (·.1)).Nodup) {m: Mo} {c: Rat} (h: (m, c) ∈ p): wt (pd p m) + (sz c + 1) = wt p ∧ (pd p m).length + 1 = p.length := by
 induction p with
 | nil => cases h
 | cons e p ih =>
  rw [List.map_cons, List.nodup_cons] at hn
  rw [pd_cons, wt_cons]
  rcases List.mem_cons.mp h with rfl | h
  ·rw [if_pos rfl, pd_none hn.1]
   refine ⟨by simp only; lia, by simp⟩
  ·have hne: e.1 ≠ m := fun q => hn.1 (by rw [q]; exact List.mem_map.mpr ⟨(m, c), h, rfl⟩)
   rw [if_neg hne, wt_cons]
   obtain ⟨i1, i2⟩ := ih hn.2 h
   refine ⟨by lia, by simp only [List.length_cons]; lia⟩
theorem wt_pd_le (p: Po) (m: Mo): wt (pd p m) ≤ wt p := by
 induction p with
 | nil => exact Nat.le_refl _
 | cons e p ih =>
  rw [pd_cons, wt_cons]
  split
  ·exact Nat.le_trans ‹_› (Nat.le_add_left _ _)
  ·rw [wt_cons]; lia
theorem wt_set {p: Po} (hn: (p.map (·.1)).Nodup) {m: Mo} {c0 c: Rat} (h: (m, c0) ∈ p): wt (p.map fun e => if e.1 = m then (e.1, c) else e) + (sz c0 + 1) = wt p + (sz c + 1) := by
 induction p with
 | nil => cases h
 | cons e p ih =>
  rw [List.map_cons, List.nodup_cons] at hn
  rw [List.map_cons, wt_cons, wt_cons]
  rcases List.mem_cons.mp h with rfl | h
  ·have e1: (p.map fun e => if e.1 = m then (e.1, c) else e) = p := by
    rw [List.map_congr_left (g := id)]
    ·exact List.map_id p
    ·intro x hx
     have: x.1 ≠ m := fun q => hn.1 (by show m ∈ _; rw [← q]; exact List.mem_map_of_mem hx)
     simp [this]
   rw [e1]
   simp only [if_true]; lia
  ·have hne: e.1 ≠ m := fun q => hn.1 (by rw [q]; exact List.mem_map.mpr ⟨(m, c0), h, rfl⟩)
   rw [if_neg hne]
   have := ih hn.2 h
   lia
theorem wt_addT {p: Po} (hn: (p.map (·.1)).Nodup) (m: Mo) (c: Rat): wt (addT p m c) ≤ wt p + (sz c + 1) := by
 unfold addT
 split
 ·have := wt_pd_le p m; exact Nat.le_trans ‹_› (Nat.le_add_right _ _)
 ·unfold pp
  split
  ·rename_i h1 h2
   obtain ⟨c0, hc0⟩ := Option.isSome_iff_exists.mp h2
   have ht: tot p m c = c0 + c := by unfold tot; rw [hc0]
   have w1 := wt_set hn (c := c0 + c) (pg_some hc0)
   have w2 := sz_add c0 c
   rw [ht]
   lia
  ·rename_i h1 h2
   have h3: pg p m = none := by simpa using h2
   have ht: tot p m c = c := by unfold tot; rw [h3]
   rw [wt_append, ht]
   simp [wt]
theorem pd_addT {p: Po} {t m: Mo} (h: t ≠ m) (x: Rat): pd (addT p t x) m = addT (pd p m) t x := by
 have e1: pg (pd p m) t = pg p t := by rw [pg_pd, if_neg h]
 have e2: tot (pd p m) t x = tot p t x := by unfold tot; rw [e1]
 unfold addT
 rw [e2]
 split
 ·unfold pd; rw [List.filter_filter, List.filter_filter]; congr 1; funext e; rw [Bool.and_comm]
 ·unfold pp
  rw [e1]
  split
  ·unfold pd
   rw [List.filter_map]
   congr 1
   congr 1
   funext e
   simp only [Function.comp]
   by_cases q: e.1 = t
   ·simp [q]
   ·simp [q]
  ·unfold pd
   rw [List.filter_append]
   simp [h]
inductive SubR (o: Od) (left g: Po) (m l: Mo) (c lc: Rat): Prop
 | one (h: g = [(l, lc)]) (e: subP left (shiftP g (mM m l) (c / lc)) = pd left m)
 | two (t: Mo) (tc: Rat) (ht: (t, tc) ∈ g) (hne: (t, tc) ≠ (l, lc)) (hlt: lt o t l) (ha: ∀ e ∈ g, e = (l, lc) ∨ e = (t, tc)) (e: subP left (shiftP g (mM m l) (c / lc)) = addT (pd left m) (mP t (mM m l)) (-(tc * (c / lc))))
theorem sub_step0 {o: Od} {left g: Po} {m l: Mo} {c lc: Rat} (hl: (left.map (·.1)).Nodup) (hg: Wf g) (hlen: g.length ≤ 2) (hm: (m, c) ∈ left) (hc: c ≠ 0) (hld: lead o g = some (l, lc)) (hd: mdiv l m = true) :
  (g = [(l, lc)] ∧ subP left (shiftP g (mM m l) (c / lc)) = pd left m) ∨
  ∃ t tc, (t, tc) ∈ g ∧ (t, tc) ≠ (l, lc) ∧ lt o t l ∧ (∀ e ∈ g, e = (l, lc) ∨ e = (t, tc)) ∧ subP left (shiftP g (mM m l) (c / lc)) = addT (pd left m) (mP t (mM m l)) (-(tc * (c / lc))) := by
 have hlc: lc ≠ 0 := hg.2 _ (lead_mem hld)
 have hf: c / lc ≠ 0 := fun q => hc (by have: c = c / lc * lc := (by grind); rw [this, q]; grind)
 have e1: mP l (mM m l) = m := mplus_minus hd
 have e2: lc * (c / lc) = c := by grind
 have hpg: pg left m = some c := pg_mem hl hm
 have kill: ∀ p: Po, pg p m = some c → addT p m (-c) = pd p m := fun p hp => by
  unfold addT
  rw [if_pos]
  unfold tot; rw [hp]; grind
 have two: ∀ {t: Mo} {tc: Rat}, (t, tc) ∈ g → (t, tc) ≠ (l, lc) → lt o t l ∧ mP t (mM m l) ≠ m := fun {t tc} ht hne => by
  have h1 := (lead_lt hg.1 hld ht).resolve_left hne
  refine ⟨h1, fun q => ?_⟩
  have := mplus_inj (u := mM m l) (a := t) (b := l) (by rw [mplus_comm _ t, mplus_comm _ l, q, e1])
  rw [this] at h1; exact lt_irr' o l h1
 unfold subP shiftP
 rw [if_neg hf]
 rcases len2 hlen with rfl | ⟨e, rfl⟩ | ⟨a, b, rfl⟩
 ·cases hld
 ·have: e = (l, lc) := (List.mem_singleton.mp (lead_mem hld)).symm
  subst this
  refine .inl ⟨rfl,?_⟩
  simp only [List.map_cons, List.map_nil, negP, addL, List.foldl_cons, List.foldl_nil]
  rw [e1, e2]; exact kill _ hpg
 ·have hn := hg.1
  simp only [List.map_cons, List.map_nil, List.nodup_cons, List.mem_singleton] at hn
  rcases (by simpa using lead_mem hld: (l, lc) = a ∨ (l, lc) = b) with q | q
  ·subst q
   obtain ⟨t, tc⟩ := b
   have hne: (t, tc) ≠ (l, lc) := fun q => hn.1 (by cases q; rfl)
   obtain ⟨h1, h2⟩ := two (t := t) (tc := tc) (by simp) hne
   refine .inr ⟨t, tc, by simp, hne, h1, by simp,?_⟩
   simp only [List.map_cons, List.map_nil, negP, addL, List.foldl_cons, List.foldl_nil]
   rw [e1, e2, kill _ hpg]
  ·subst q
   obtain ⟨t, tc⟩ := a
   have hne: (t, tc) ≠ (l, lc) := fun q => hn.1 (by cases q; rfl)
   obtain ⟨h1, h2⟩ := two (t := t) (tc := tc) (by simp) hne
   refine .inr ⟨t, tc, by simp, hne, h1, by simp [or_comm],?_⟩
   simp only [List.map_cons, List.map_nil, negP, addL, List.foldl_cons, List.foldl_nil]
   rw [e1, e2, kill _ (by rw [pg_addT, if_neg (Ne.symm h2)]; exact hpg), pd_addT h2]
theorem sub_step {o: Od} {left g: Po} {m l: Mo} {c lc: Rat} (hl: (left.map (·.1)).Nodup) (hg: Wf g) (hlen: g.length ≤ 2) (hm: (m, c) ∈ left) (hc: c ≠ 0) (hld: lead o g = some (l, lc)) (hd: mdiv l m = true) :
  SubR o left g m l c lc := by
 rcases sub_step0 hl hg hlen hm hc hld hd with ⟨h, e⟩ | ⟨t, tc, a1, a2, a3, a4, e⟩
 ·exact .one h e
 ·exact .two t tc a1 a2 a3 a4 e
theorem filt_sum {α: Type} (cost: α → Nat) (p: α → Bool) (x: α) (R: List α): (((x :: R).filter p).map cost).sum = (if p x = true then cost x else 0) + ((R.filter p).map cost).sum := by
 by_cases h: p x = true
 ·rw [List.filter_cons_of_pos h, if_pos h, List.map_cons, List.sum_cons]
 ·rw [List.filter_cons_of_neg h, if_neg h, Nat.zero_add]
theorem sumf_one {α: Type} (cost: α → Nat) (p q: α → Bool) (hpq: ∀ x, p x = true → q x = true) (x: α): (if p x = true then cost x else 0) ≤ (if q x = true then cost x else 0) := by
 by_cases h: p x = true
 ·rw [if_pos h, if_pos (hpq x h)]; exact Nat.le_refl _
 ·rw [if_neg h]; exact Nat.zero_le _
theorem sumf_mono {α: Type} (cost: α → Nat) (p q: α → Bool) (hpq: ∀ x, p x = true → q x = true) (R: List α): ((R.filter p).map cost).sum ≤ ((R.filter q).map cost).sum := by
 induction R with
 | nil => exact Nat.le_refl _
 | cons x R ih => rw [filt_sum, filt_sum]; exact Nat.add_le_add (sumf_one cost p q hpq x) ih
theorem sumf_lt {α: Type} (cost: α → Nat) (p q: α → Bool) {m: α}: ∀ {R: List α}, (∀ x, p x = true → q x = true) → m ∈ R → q m = true → p m = false → ((R.filter p).map cost).sum + cost m ≤ ((R.filter q).map cost).sum := by
 intro R
 induction R with
 | nil => intro uu hm; cases hm
 | cons x R ih =>
  intro hpq hm h1 h2
  rw [filt_sum, filt_sum]
  rcases List.mem_cons.mp hm with rfl | hm
  ·rw [if_pos h1, if_neg (by rw [h2]; decide), Nat.zero_add, Nat.add_comm]
   exact Nat.add_le_add_left (sumf_mono cost p q hpq R) _
  ·rw [Nat.add_assoc]
   exact Nat.add_le_add (sumf_one cost p q hpq x) (ih hpq hm h1 h2)
theorem sumf_le {α: Type} (cost: α → Nat) (p: α → Bool) (R: List α): ((R.filter p).map cost).sum ≤ (R.map cost).sum := by
 induction R with
 | nil => exact Nat.le_refl _
 | cons x R ih =>
  by_cases hp: p x = true
  ·simp only [List.filter_cons, hp, if_true, List.map_cons, List.sum_cons]; lia
  ·simp only [List.filter_cons, hp, List.map_cons, List.sum_cons]; simp; exact Nat.le_trans ‹_› (Nat.le_add_left _ _)
end Mine.Internal.Pl
end
section
namespace Mine.Internal.Pl
structure Rg (o: Od) (G: List Po) (R: List Mo) (cost: Mo → Nat): Prop where
 okp: ∀ g ∈ G, OkP g ∧ g.length ≤ 2
 small: ∀ g ∈ G, ∀ l, lead o g = some l → sz l.2 ≤ 10
 box: ∀ m ∈ R, m.1 ≤ 200 ∧ m.2 ≤ 200
 clos: ∀ (m: Mo) (i: Nat) (g: Po) (l: Mo × Rat), m ∈ R → fstDiv m (G.map (lead o)) = some i → G[i]? = some g → lead o g = some l → ∀ e ∈ g, e ≠ l → mP e.1 (mM m l.1) ∈ R ∧ sz e.2 + sz l.2 ≤ cost m
noncomputable abbrev Tr3 := Nat × Mo × Rat
noncomputable def Tsum (G: List Po) (T: List Tr3): Fn := fun k => (T.map fun t => t.2.2 * sh t.2.1 (ev (G.getD t.1 [])) k).sum
theorem Tsum_snoc (G: List Po) (T: List Tr3) (t: Tr3) (k: Mo): Tsum G (T ++ [t]) k = Tsum G T k + t.2.2 * sh t.2.1 (ev (G.getD t.1 [])) k := by
 simp only [Tsum]
 induction T with
 | nil => simp; grind
 | cons x T ih => simp only [List.cons_append, List.map_cons, List.sum_cons]; rw [ih]; grind
noncomputable def qOf (T: List Tr3) (i: Nat): Po := (T.filter fun t => t.1 == i).map (·.2)
noncomputable def bel (o: Od) (left: Po) (x: Mo): Bool := left.any fun e => !(ltM o e.1 x)
theorem bel_iff {o: Od} {left: Po} {x: Mo}: bel o left x = true ↔ ∃ e ∈ left, ¬ lt o e.1 x := by
 unfold bel lt
 rw [List.any_eq_true]
 simp
inductive TrF (o: Od) (f: Po) (G: List Po) (R: List Mo) (C: Nat) (left: Po) (t: Tr3): Prop
 | mk (g: Po) (l: Mo × Rat) (h1: G[t.1]? = some g) (h2: lead o g = some l) (h3: ∃ e ∈ f, ¬ lt o e.1 (mP t.2.1 l.1)) (h4: ∀ e ∈ left, lt o e.1 (mP t.2.1 l.1)) (h5: t.2.2 ≠ 0) (h6: sz t.2.2 ≤ C + 10) (h7: mP t.2.1 l.1 ∈ R)
inductive NewL (o: Od) (f: Po) (R: List Mo) (w n: Nat) (m: Mo) (p: Po): Prop
 | mk (wf: Wf p) (k2: ∀ e ∈ p, lt o e.1 m ∧ e.1 ∈ R ∧ ∃ e' ∈ f, ¬ lt o e'.1 e.1) (k3: wt p ≤ w) (k4: p.length ≤ n)
structure DI (o: Od) (f: Po) (G: List Po) (R: List Mo) (cost: Mo → Nat) (C: Nat) (st: DSt) (T: List Tr3): Prop where
 wfl: Wf st.left
 wfr: Wf st.rest
 lR: ∀ e ∈ st.left, e.1 ∈ R
 rR: ∀ e ∈ st.rest, e.1 ∈ R ∧ fstDiv e.1 (G.map (lead o)) = none
 sep: ∀ e ∈ st.rest, ∀ e' ∈ st.left, lt o e'.1 e.1
 wgt: wt st.left + wt st.rest + ((R.filter (bel o st.left)).map cost).sum ≤ C
 len: st.left.length + st.rest.length ≤ f.length
 eq: ∀ k, ev f k = ev st.left k + ev st.rest k + Tsum G T k
 qs: st.qs = (List.range G.length).map (qOf T)
 tr: ∀ t ∈ T, TrF o f G R C st.left t
 tn: ∀ i, ((qOf T i).map (·.1)).Nodup
 tl: T.length + (R.filter (bel o st.left)).length ≤ R.length
 dom: ∀ e ∈ st.left, ∃ e' ∈ f, ¬ lt o e'.1 e.1
theorem filter_len {α: Type} (p: α → Bool) (R: List α): (R.filter p).length = ((R.filter p).map fun uu => 1).sum := by
 induction R with
 | nil => rfl
 | cons x R ih => by_cases h: p x = true <;> simp [h, ih]; lia
theorem addT_mem {p: Po} {m: Mo} {c: Rat} {e: Mo × Rat} (h: e ∈ addT p m c): e.1 = m ∨ e ∈ p := by
 unfold addT at h
 split at h
 ·exact .inr (pd_mem h).1
 ·rcases pp_keys_mem p m _ h with rfl | ⟨h, uu⟩
  ·exact .inl rfl
  ·exact .inr h
theorem okP_of {p: Po} (hw: Wf p) (hs: ∀ e ∈ p, sz e.2 ≤ 67000000) (hb: ∀ e ∈ p, e.1.1 ≤ 200 ∧ e.1.2 ≤ 200) (hl: p.length ≤ 100000): OkP p := ⟨hw, fun e he => szB_of (hs e he), hb, hl⟩
theorem pd_wf {p: Po} (h: Wf p) (m: Mo): Wf (pd p m) := ⟨pd_nodup h.1 m, fun e he => h.2 e (pd_mem he).1⟩
theorem qOf_snoc (T: List Tr3) (t: Tr3) (i: Nat): qOf (T ++ [t]) i = qOf T i ++ (if t.1 = i then [t.2] else []) := by
 unfold qOf
 rw [List.filter_append, List.map_append]
 congr 1
 by_cases h: t.1 = i <;> simp [h]
section
variable {o: Od} {f: Po} {G: List Po} {R: List Mo} {cost: Mo → Nat} {C: Nat} {st: DSt} {T: List Tr3}
theorem DI.okl (h: DI o f G R cost C st T) (rg: Rg o G R cost) (hC: C ≤ 66000000) (hf: f.length ≤ 1000): OkP st.left :=
 okP_of h.wfl (fun e he => by have := wt_mem he; have := h.wgt; lia) (fun e he => rg.box _ (h.lR e he)) (by have := h.len; lia)
theorem DI.okr (h: DI o f G R cost C st T) (rg: Rg o G R cost) (hC: C ≤ 66000000) (hf: f.length ≤ 1000): OkP st.rest :=
 okP_of h.wfr (fun e he => by have := wt_mem he; have := h.wgt; lia) (fun e he => rg.box _ (h.rR e he).1) (by have := h.len; lia)
theorem DI.okq (h: DI o f G R cost C st T) (rg: Rg o G R cost) (hC: C ≤ 66000000) (hR: R.length ≤ 50000) (i: Nat): OkP (qOf T i) := by
 have mem: ∀ e ∈ qOf T i, (i, e) ∈ T := fun e he => by
  unfold qOf at he
  obtain ⟨t, ht, rfl⟩ := List.mem_map.mp he
  obtain ⟨h1, h2⟩ := List.mem_filter.mp ht
  have: t.1 = i := by simpa using h2
  rw [← this]; exact h1
 refine okP_of ⟨h.tn i, fun e he => ?_⟩ (fun e he => ?_) (fun e he => ?_) ?_
 ·obtain ⟨g, l, uu, uu, uu, uu, h1, uu, uu⟩ := h.tr _ (mem e he); exact h1
 ·obtain ⟨g, l, uu, uu, uu, uu, uu, h1, uu⟩ := h.tr _ (mem e he); simp only at h1; lia
 ·obtain ⟨g, l, uu, uu, uu, uu, uu, uu, h1⟩ := h.tr _ (mem e he)
  have := rg.box _ h1
  simp only [mP] at this
  lia
 ·have h1: (qOf T i).length ≤ T.length := by unfold qOf; rw [List.length_map]; exact List.length_filter_le ..
  have := h.tl
  lia
theorem DI.turn (h: DI o f G R cost C st T) (rg: Rg o G R cost) (hC: C ≤ 66000000) (hf: f.length ≤ 1000) (hR: R.length ≤ 50000) (hne: st.left ≠ []) :
  ∃ st' T', DStep o G (G.map (lead o)) st st' ∧ DI o f G R cost C st' T' ∧ (R.filter (bel o st'.left)).length < (R.filter (bel o st.left)).length := by
 obtain ⟨⟨m, c⟩, hl⟩: ∃ l, lead o st.left = some l := by
  cases q: lead o st.left with
  | none => exact absurd (lead_none.mp q) hne
  | some l => exact ⟨l, rfl⟩
 have hm := lead_mem hl
 have hmR := h.lR _ hm
 have hc := h.wfl.2 _ hm
 have less: ∀ e ∈ pd st.left m, lt o e.1 m := fun e he => by
  obtain ⟨h1, h2⟩ := pd_mem he
  exact (lead_lt h.wfl.1 hl h1).resolve_left (fun q => h2 (by rw [q]))
 obtain ⟨w1, w2⟩ := wt_pd h.wfl.1 hm
 have wc: sz c + 1 ≤ wt st.left := wt_mem hm
 have belm: bel o st.left m = true := bel_iff.mpr ⟨_, hm, lt_irr' o m⟩
 have drop: ∀ {left': Po}, (∀ e ∈ left', lt o e.1 m) → (∀ (cost: Mo → Nat), ((R.filter (bel o left')).map cost).sum + cost m ≤ ((R.filter (bel o st.left)).map cost).sum) := fun {left'} hlt cost => by
  refine sumf_lt cost _ _ (fun x hx => ?_) hmR belm ?_
  ·obtain ⟨e, he, hx⟩ := bel_iff.mp hx
   exact bel_iff.mpr ⟨_, hm, fun q => hx (lt_trans' (hlt e he) q)⟩
  ·cases q: bel o left' m with
   | false => rfl
   | true =>
    obtain ⟨e, he, hx⟩ := bel_iff.mp q
    exact absurd (hlt e he) hx
 have hwt := h.wgt
 cases hq: fstDiv m (G.map (lead o)) with
 | none =>
  have hmr: m ∉ st.rest.map (·.1) := fun q => by
   obtain ⟨e, he, e1⟩ := List.mem_map.mp q
   have := h.sep e he _ hm
   rw [e1] at this; exact lt_irr' o m this
  have er: pp st.rest m c = st.rest ++ [(m, c)] := pp_fresh c hmr
  refine ⟨_, T, .out hl hq, ⟨pd_wf h.wfl m,?_, fun e he => h.lR e (pd_mem he).1, fun e he => ?_, fun e he e' he' => ?_,?_,?_, fun k => ?_, h.qs, fun t ht => ?_, h.tn,?_, fun e he => h.dom e (pd_mem he).1⟩,?_⟩
  ·refine ⟨pp_nodup h.wfr.1 m c, fun e he => ?_⟩
   rcases pp_keys_mem _ _ _ he with rfl | ⟨he, uu⟩
   ·exact hc
   ·exact h.wfr.2 e he
  ·rcases pp_keys_mem _ _ _ he with rfl | ⟨he, uu⟩
   ·exact ⟨hmR, hq⟩
   ·exact h.rR e he
  ·rcases pp_keys_mem _ _ _ he with rfl | ⟨he, uu⟩
   ·exact less e' he'
   ·exact h.sep e he e' (pd_mem he').1
  ·show wt (pd st.left m) + wt (pp st.rest m c) + _ ≤ C
   rw [er, wt_append]
   have := drop less cost
   have e3: wt [(m, c)] = sz c + 1 := by simp [wt]
   simp only
   lia
  ·show (pd st.left m).length + (pp st.rest m c).length ≤ _
   rw [er]
   have := h.len
   simp only [List.length_append, List.length_singleton]
   lia
  ·show ev f k = ev (pd st.left m) k + ev (pp st.rest m c) k + Tsum G T k
   rw [h.eq k]
   have e1: ev (pd st.left m) k = if k = m then 0 else ev st.left k := by
    show (pg (pd st.left m) k).getD 0 = _
    rw [pg_pd]
    split <;> rfl
   have e2: ev (pp st.rest m c) k = if k = m then c else ev st.rest k := by
    show (pg (pp st.rest m c) k).getD 0 = _
    rw [pg_pp]
    split <;> rfl
   rw [e1, e2]
   by_cases q: k = m
   ·subst q
    rw [if_pos rfl, if_pos rfl, ev_mem h.wfl.1 hm]
    have: ev st.rest k = 0 := by
     show (pg st.rest k).getD 0 = 0
     rw [pg_none.mpr hmr]; rfl
    rw [this]; simp only; grind
   ·rw [if_neg q, if_neg q]
  ·obtain ⟨g, l, t1, t2, t3, t4, t5, t6, t7⟩ := h.tr t ht
   exact ⟨g, l, t1, t2, t3, fun e he => t4 e (pd_mem he).1, t5, t6, t7⟩
  ·show T.length + (R.filter (bel o (pd st.left m))).length ≤ R.length
   have := drop less (fun uu => 1)
   have := h.tl
   rw [filter_len] at this ⊢
   lia
  ·show (R.filter (bel o (pd st.left m))).length < _
   have := drop less (fun uu => 1)
   rw [filter_len, filter_len (bel o st.left)]
   assumption
 | some i =>
  obtain ⟨hi1, hi2, uu⟩ := List.findIdx?_eq_some_iff_getElem.mp hq
  rw [List.length_map] at hi1
  obtain ⟨g, hg⟩: ∃ g, G[i]? = some g := ⟨_, List.getElem?_eq_getElem hi1⟩
  have hli: (G.map (lead o))[i]? = some (lead o g) := by rw [List.getElem?_map, hg]; rfl
  have hi3: hits m (lead o g) = true := by
   have e := List.getElem?_eq_getElem (l := G.map (lead o)) (i := i) (by rw [List.length_map]; exact hi1)
   rw [hli] at e; rw [Option.some.inj e]; exact hi2
  obtain ⟨⟨l, lc⟩, hld⟩: ∃ l, lead o g = some l := by
   cases q: lead o g with
   | none => rw [q] at hi3; cases hi3
   | some l => exact ⟨l, rfl⟩
  rw [hld] at hi3
  have hd: mdiv l m = true := hi3
  have hgm: g ∈ G := List.mem_of_getElem? hg
  obtain ⟨okg, lg⟩ := rg.okp g hgm
  have hlc := okg.wf.2 _ (lead_mem hld)
  have hsl := rg.small g hgm _ hld
  simp only at hsl hlc
  have hfne: c / lc ≠ 0 := fun q => hc (by have: c = c / lc * lc := (by grind); simp only; rw [this, q]; grind)
  have hszf: sz (c / lc) ≤ sz c + sz lc := sz_div c hlc
  have emm: mP l (mM m l) = m := mplus_minus hd
  have em2: mP (mM m l) l = m := by rw [mplus_comm]; exact emm
  have hclos := rg.clos m i g (l, lc) hmR hq hg hld
  have hqi: st.qs[i]? = some (qOf T i) := by rw [h.qs, List.getElem?_map, List.getElem?_range hi1]; rfl
  have hfresh: mM m l ∉ (qOf T i).map (·.1) := fun q => by
   obtain ⟨e, he, e1⟩ := List.mem_map.mp q
   unfold qOf at he
   obtain ⟨t, ht, rfl⟩ := List.mem_map.mp he
   obtain ⟨h1, h2⟩ := List.mem_filter.mp ht
   have e2: t.1 = i := by simpa using h2
   obtain ⟨g', l', t1, t2, uu, t4, uu, uu, uu⟩ := h.tr t h1
   rw [e2, hg] at t1; cases t1
   rw [hld] at t2; cases t2
   have := t4 _ hm
   rw [e1] at this
   simp only at this
   rw [em2] at this
   exact lt_irr' o m this
  have hadd: addT (qOf T i) (mM m l) (c / lc) = qOf (T ++ [(i, mM m l, c / lc)]) i := by
   rw [qOf_snoc, if_pos rfl]
   unfold addT
   have: tot (qOf T i) (mM m l) (c / lc) = c / lc := by unfold tot; rw [pg_none.mpr hfresh]
   rw [this, if_neg hfne, pp_fresh _ hfresh]
  have okshift: OkP (shiftP g (mM m l) (c / lc)) := by
   refine okP_of ⟨shiftP_keys okg.wf.1 _ _, fun e he => ?_⟩ (fun e he => ?_) (fun e he => ?_) ?_
   all_goals (try (unfold shiftP at he; rw [if_neg hfne] at he; obtain ⟨x, hx, rfl⟩ := List.mem_map.mp he))
   ·have := okg.wf.2 x hx
    simp only
    intro q
    rcases Rat.mul_eq_zero.mp q with q | q
    ·exact this q
    ·exact hfne q
   ·by_cases q: x = (l, lc)
    ·subst q
     have: lc * (c / lc) = c := by grind
     simp only
     rw [this]
     lia
    ·obtain ⟨uu, h2⟩ := hclos x hx q
     have h3 := sz_mul x.2 (c / lc)
     have h4 := drop (left' := []) (fun e he => by cases he) cost
     simp only at h2 h3 ⊢
     lia
   ·by_cases q: x = (l, lc)
    ·subst q; simp only; rw [emm]; exact rg.box _ hmR
    ·exact rg.box _ (hclos x hx q).1
   ·unfold shiftP
    split
    ·simp
    ·rw [List.length_map]; exact Nat.le_trans ‹_› (by decide)
  have step: DStep o G (G.map (lead o)) st ⟨st.qs.set i (addT (qOf T i) (mM m l) (c / lc)), st.rest, subP st.left (shiftP g (mM m l) (c / lc))⟩ :=
   .via hl hq (by rw [hli, hld]) hlc (szB_of (by exact Nat.le_trans ‹_› (by decide))) hg hqi okg (h.okq rg hC hR i) okshift (szB_of (by lia))
  have key: ∃ left', subP st.left (shiftP g (mM m l) (c / lc)) = left' ∧ NewL o f R (wt st.left + cost m) st.left.length m left' := by
   obtain ⟨e0, he0, hdom⟩ := h.dom _ hm
   have old: ∀ e ∈ pd st.left m, lt o e.1 m ∧ e.1 ∈ R ∧ ∃ e' ∈ f, ¬ lt o e'.1 e.1 := fun e he => ⟨less e he, h.lR e (pd_mem he).1, h.dom e (pd_mem he).1⟩
   rcases sub_step h.wfl.1 okg.wf lg hm hc hld hd with ⟨uu, e⟩ | ⟨t, tc, ht, hne, hlt, uu, e⟩
   ·exact ⟨_, e, pd_wf h.wfl m, old, by lia, by lia⟩
   ·obtain ⟨c1, c2⟩ := hclos _ ht hne
    have ltm: lt o (mP t (mM m l)) m := by
     have := lt_plus (mM m l) hlt
     rw [em2, mplus_comm] at this; exact this
    refine ⟨_, e, ⟨addT_nodup (pd_nodup h.wfl.1 m) _ _, addT_nz (fun e he => h.wfl.2 e (pd_mem he).1) _ _⟩, fun e he => ?_,?_,?_⟩
    ·rcases addT_mem he with q | q
     ·rw [q]; exact ⟨ltm, c1, e0, he0, fun q => hdom (lt_trans' q ltm)⟩
     ·exact old e q
    ·have h1 := wt_addT (pd_nodup h.wfl.1 m) (mP t (mM m l)) (-(tc * (c / lc)))
     have h2 := sz_neg (tc * (c / lc))
     have h3 := sz_mul tc (c / lc)
     simp only at c2
     lia
    ·have := addT_length (pd st.left m) (mP t (mM m l)) (-(tc * (c / lc)))
     lia
  obtain ⟨left', eleft, k1, k2, k3, k4⟩ := key
  rw [eleft] at step
  have less': ∀ e ∈ left', lt o e.1 m := fun e he => (k2 e he).1
  refine ⟨_, T ++ [(i, mM m l, c / lc)], step, ⟨k1, h.wfr, fun e he => (k2 e he).2.1, h.rR, fun e he e' he' => lt_trans' (less' e' he') (h.sep e he _ hm),?_,?_, fun k => ?_,?_, fun t ht => ?_, fun j => ?_,?_, fun e he => (k2 e he).2.2⟩,?_⟩
  ·show wt left' + wt st.rest + _ ≤ C
   have := drop less' cost
   simp only
   lia
  ·show left'.length + st.rest.length ≤ _
   have := h.len
   lia
  ·show ev f k = ev left' k + ev st.rest k + Tsum G (T ++ [(i, mM m l, c / lc)]) k
   rw [h.eq k, Tsum_snoc, ← eleft, ev_subP, rs_shiftP g _ hfne, rs_ev okg.wf.1]
   have: G.getD i [] = g := by simp [List.getD, hg]
   simp only
   rw [this]; grind
  ·show st.qs.set i _ = _
   rw [hadd, h.qs]
   apply List.ext_getElem?
   intro j
   by_cases q: j = i
   ·subst q
    rw [List.getElem?_set_self (by simp; exact hi1), List.getElem?_map, List.getElem?_range hi1]; rfl
   ·rw [List.getElem?_set_ne (Ne.symm q), List.getElem?_map, List.getElem?_map]
    cases hy: (List.range G.length)[j]? with
    | none => rfl
    | some y =>
     have hyj: y = j := by
      obtain ⟨h1, h2⟩ := List.getElem?_eq_some_iff.mp hy
      simpa using h2.symm
     subst hyj
     simp only [Option.map_some]
     rw [qOf_snoc, if_neg (Ne.symm q), List.append_nil]
  ·rcases List.mem_append.mp ht with ht | ht
   ·obtain ⟨g', l', t1, t2, t3, t4, t5, t6, t7⟩ := h.tr t ht
    exact ⟨g', l', t1, t2, t3, fun e he => lt_trans' (less' e he) (t4 _ hm), t5, t6, t7⟩
   ·rw [List.mem_singleton] at ht; subst ht
    refine ⟨g, (l, lc), hg, hld,?_, fun e he => ?_, hfne,?_,?_⟩
    ·simp only; rw [em2]; exact h.dom _ hm
    ·simp only; rw [em2]; exact less' e he
    ·simp only; lia
    ·simp only; rw [em2]; exact hmR
  ·rw [qOf_snoc]
   split
   ·rename_i q
    simp only at q; subst q
    rw [List.map_append, List.nodup_append]
    refine ⟨h.tn i, by simp, fun a ha b hb => ?_⟩
    simp at hb; subst hb
    exact fun q => hfresh (q ▸ ha)
   ·rw [List.append_nil]; exact h.tn j
  ·show (T ++ [_]).length + (R.filter (bel o left')).length ≤ R.length
   have := drop less' (fun uu => 1)
   have := h.tl
   rw [filter_len] at this ⊢
   simp only [List.length_append, List.length_singleton]
   lia
  ·show (R.filter (bel o left')).length < _
   have := drop less' (fun uu => 1)
   rw [filter_len, filter_len (bel o st.left)]
   assumption
end
end Mine.Internal.Pl
end
section
namespace Mine.Internal.Pl
section
variable {o: Od} {f: Po} {G: List Po} {R: List Mo} {cost: Mo → Nat} {C: Nat}
theorem DI.run (rg: Rg o G R cost) (hC: C ≤ 66000000) (hf: f.length ≤ 1000) (hR: R.length ≤ 50000) :
  ∀ (n: Nat) (st: DSt) (T: List Tr3), (R.filter (bel o st.left)).length = n → DI o f G R cost C st T → ∃ fin T' n', DRun o G (G.map (lead o)) n' st fin ∧ fin.left = [] ∧ DI o f G R cost C fin T' := by
 intro n
 induction n using Nat.strongRecOn with
 | _ n ih =>
 intro st T hn h
 by_cases q: st.left = []
 ·exact ⟨st, T, 0, .stop q, q, h⟩
 ·obtain ⟨st', T', h1, h2, h3⟩ := h.turn rg hC hf hR q
  obtain ⟨fin, T2, n', r1, r2, r3⟩ := ih _ (by lia) st' T' rfl h2
  exact ⟨fin, T2, n' + 1, .step (h.okl rg hC hf) (h.okr rg hC hf) h1 r1, r2, r3⟩
theorem div_ok (rg: Rg o G R cost) (okf: OkP f) (hfR: ∀ e ∈ f, e.1 ∈ R) (hC: wt f + (R.map cost).sum ≤ C) (hC2: C ≤ 66000000) (hf: f.length ≤ 1000) (hR: R.length ≤ 50000) :
  ∃ fin T, Div o f G fin ∧ fin.left = [] ∧ DI o f G R cost C fin T := by
 have h0: DI o f G R cost C ⟨G.map fun uu => [], [], f⟩ [] := by
  refine ⟨okf.wf, ⟨by simp, by simp⟩, hfR, by simp, by simp,?_, by simp, fun k => ?_,?_, by simp, fun i => by simp [qOf],?_, fun e he => ⟨e, he, lt_irr' o _⟩⟩
  ·have := sumf_le cost (bel o f) R
   show wt f + wt [] + ((R.filter (bel o f)).map cost).sum ≤ C
   rw [wt_nil]; lia
  ·show ev f k = ev f k + ev [] k + 0
   rw [ev_nil]; grind
  ·show G.map (fun uu => []) = (List.range G.length).map (qOf [])
   have: qOf [] = fun uu => ([]: Po) := by funext i; rfl
   rw [this]
   apply List.ext_getElem?
   intro j
   rw [List.getElem?_map, List.getElem?_map]
   by_cases q: j < G.length
   ·rw [List.getElem?_eq_getElem q, List.getElem?_range q]; rfl
   ·rw [List.getElem?_eq_none (by exact Nat.not_lt.mp ‹_›), List.getElem?_eq_none (by simp; exact Nat.not_lt.mp ‹_›)]; rfl
  ·simp only [List.length_nil, Nat.zero_add]; exact List.length_filter_le ..
 obtain ⟨fin, T, n, r1, r2, r3⟩ := DI.run rg hC2 hf hR _ _ _ rfl h0
 exact ⟨fin, T, ⟨okf, fun p hp => (rg.okp p hp).1, n, r1⟩, r2, r3⟩
theorem DI.sp {st: DSt} {T: List Tr3} (h: DI o f G R cost C st T) (hl: st.left = []) {P: Mo → Prop} (hP: ∀ m, (∃ e ∈ f, ¬ lt o e.1 m) → P m): Sp o G P (fun k => ev f k - ev st.rest k) := by
 have key: ∀ T': List Tr3, (∀ t ∈ T', t ∈ T) → Sp o G P (Tsum G T') := by
  intro T'
  induction T' with
  | nil => intro uu; exact Sp.zero
  | cons t T' ih =>
   intro hT
   obtain ⟨g, l, t1, t2, t3, uu, uu, uu, uu⟩ := h.tr t (hT t (.head _))
   have e: G.getD t.1 [] = g := by simp [List.getD, t1]
   refine (Sp.step t.2.2 t.2.1 (List.mem_of_getElem? t1) t2 (hP _ t3) (ih fun x hx => hT x (.tail _ hx))).cast fun k => ?_
   show (List.map _ (t :: T')).sum = _
   rw [List.map_cons, List.sum_cons, e]
   show _ + Tsum G T' k = _
   grind
 refine (key T fun uu h => h).cast fun k => ?_
 rw [h.eq k, hl, ev_nil]; grind
theorem fst_none {m: Mo} {ls: List (Option (Mo × Rat))} (h: fstDiv m ls = none) {l: Mo × Rat} (hl: some l ∈ ls): mdiv l.1 m = false := by
 have := List.findIdx?_eq_none_iff.mp h (some l) hl
 simpa [hits] using this
theorem rest_nil {st: DSt} {T: List Tr3} (h: DI o f G R cost C st T) (hl: st.left = []) (hG: ∀ g ∈ G, Monic o g) (hgood: ∀ f ∈ G, ∀ g ∈ G, Good o G f g) (hf: Sp o G (fun uu => True) (ev f)): st.rest = [] := by
 have h1 := hf.sub (h.sp hl (P := fun uu => True) fun uu uu => True.intro)
 have h2: Sp o G (fun uu => True) (ev st.rest) := h1.cast fun k => by grind
 refine ev_zero h.wfr ?_
 rcases h2.top with q | ⟨m, uu, q⟩
 ·exact q
 ·rcases buchberger hG hgood m q with q | ⟨k, g, l, hg, hl', hd, hk⟩
  ·exact q
  ·exfalso
   obtain ⟨c, hc⟩ := ev_ne hk
   have h3 := fst_none (h.rR _ hc).2 (l := l) (by rw [← hl']; exact List.mem_map_of_mem hg)
   simp only at h3
   rw [hd] at h3; cases h3
end
end Mine.Internal.Pl
end
section
namespace Mine.Internal.Pl
theorem leadM_of {o: Od} {g: Po} {l: Mo × Rat} (h: lead o g = some l): lM o g = l.1 := by unfold lM; rw [h]
section
variable {o: Od} {f g: Po}
theorem Monic.lead (h: Monic o g): Internal.lead o g = some (lM o g, 1) := by
 obtain ⟨m, hm⟩ := h.ld
 rw [leadM_of hm]; exact hm
theorem Monic.mem (h: Monic o g): (lM o g, 1) ∈ g := lead_mem h.lead
theorem shift_one (p: Po) (u: Mo): shiftP p u 1 = p.map fun e => (mP e.1 u, e.2) := by
 unfold shiftP
 rw [if_neg (by decide)]
 exact List.map_congr_left fun e uu => by simp
theorem shift_one_wf {p: Po} (h: Wf p) (u: Mo): Wf (shiftP p u 1) := by
 refine ⟨shiftP_keys h.1 _ _, fun e he => ?_⟩
 rw [shift_one] at he
 obtain ⟨x, hx, rfl⟩ := List.mem_map.mp he
 exact h.2 x hx
theorem ev_shift_one {p: Po} (h: Wf p) (u k: Mo): ev (shiftP p u 1) k = sh u (ev p) k := by
 rw [← rs_ev (shiftP_keys h.1 u 1), rs_shiftP p u (by decide), rs_ev h.1]; grind
noncomputable def spm (o: Od) (f g: Po): Po := spoly f g (lM o f, 1) (lM o g, 1)
noncomputable def jn (o: Od) (f g: Po): Mo := mjoin (lM o f) (lM o g)
theorem spm_eq (o: Od) (f g: Po): spm o f g = subP (shiftP f (mM (jn o f g) (lM o f)) 1) (shiftP g (mM (jn o f g) (lM o g)) 1) := by
 have: (1: Rat)⁻¹ = 1 := by grind
 simp only [spm, spoly, jn, this]
theorem ev_spm (hf: Monic o f) (hg: Monic o g) (k: Mo): ev (spm o f g) k = sh (mM (jn o f g) (lM o f)) (ev f) k - sh (mM (jn o f g) (lM o g)) (ev g) k := by
 rw [spm_eq, ev_subP, ev_shift_one hf.wf, rs_ev (shift_one_wf hg.wf _).1, ev_shift_one hg.wf]
theorem jl (o: Od) (f g: Po): mdiv (lM o f) (jn o f g) = true := by rw [mdiv_iff]; simp only [jn, mjoin]; lia
theorem jr (o: Od) (f g: Po): mdiv (lM o g) (jn o f g) = true := by rw [mdiv_iff]; simp only [jn, mjoin]; lia
theorem spm_facts (hf: Monic o f) (hg: Monic o g) (lf: f.length ≤ 2) (lg: g.length ≤ 2) {W: Nat} (wf: ∀ e ∈ f, sz e.2 ≤ W) (wg: ∀ e ∈ g, sz e.2 ≤ W) :
  Wf (spm o f g) ∧ (spm o f g).length ≤ 2 ∧ wt (spm o f g) ≤ 2 * W + 2 ∧ (∀ e ∈ spm o f g, lt o e.1 (jn o f g)) ∧
  ∀ e ∈ spm o f g, (∃ x ∈ f, lt o x.1 (lM o f) ∧ e.1 = mP x.1 (mM (jn o f g) (lM o f))) ∨ (∃ x ∈ g, lt o x.1 (lM o g) ∧ e.1 = mP x.1 (mM (jn o f g) (lM o g))) := by
 have hJ: mP (lM o f) (mM (jn o f g) (lM o f)) = jn o f g := mplus_minus (jl o f g)
 have hJ2: mP (lM o g) (mM (jn o f g) (lM o g)) = jn o f g := mplus_minus (jr o f g)
 have w1 := shift_one_wf hf.wf (mM (jn o f g) (lM o f))
 have hm: (jn o f g, (1: Rat)) ∈ shiftP f (mM (jn o f g) (lM o f)) 1 := by
  rw [shift_one]
  exact List.mem_map.mpr ⟨_, hf.mem, by rw [hJ]⟩
 have hw: wt (shiftP f (mM (jn o f g) (lM o f)) 1) = wt f := by
  rw [shift_one]; unfold wt; rw [List.map_map]; rfl
 have hlen: (shiftP f (mM (jn o f g) (lM o f)) 1).length = f.length := by rw [shift_one, List.length_map]
 obtain ⟨p1, p2⟩ := wt_pd w1.1 hm
 have hwf: wt f ≤ W + 2 := by
  obtain ⟨q1, q2⟩ := wt_pd hf.wf.1 hf.mem
  have e1: sz (1: Rat) = 0 := sz_one
  rw [e1] at q1
  have: wt (pd f (lM o f)) ≤ W + 1 := by
   have hl: (pd f (lM o f)).length ≤ 1 := by lia
   rcases hp: pd f (lM o f) with uu | ⟨e, uu | ⟨e2, r⟩⟩
   ·rw [wt_nil]; exact Nat.zero_le _
   ·have he: e ∈ f := (pd_mem (m := lM o f) (by rw [hp]; simp)).1
    have := wf e he
    rw [wt_cons, wt_nil]; exact Nat.lt_succ_of_le ‹_›
   ·rw [hp, List.length_cons, List.length_cons] at hl; lia
  lia
 have e1: sz (1: Rat) = 0 := sz_one
 have old: ∀ e ∈ pd (shiftP f (mM (jn o f g) (lM o f)) 1) (jn o f g), ∃ x ∈ f, lt o x.1 (lM o f) ∧ e.1 = mP x.1 (mM (jn o f g) (lM o f)) := fun e he => by
  obtain ⟨h1, h2⟩ := pd_mem he
  rw [shift_one] at h1
  obtain ⟨x, hx, rfl⟩ := List.mem_map.mp h1
  refine ⟨x, hx,?_, rfl⟩
  rcases lead_lt hf.wf.1 hf.lead hx with q | q
  ·exfalso; apply h2; rw [q]; exact hJ
  ·exact q
 have ltf: ∀ {x l: Mo}, lt o x l → mdiv l (jn o f g) = true → lt o (mP x (mM (jn o f g) l)) (jn o f g) := fun {x l} h hd => by
  have := lt_plus (mM (jn o f g) l) h
  rw [mplus_comm _ x, mplus_comm _ l, mplus_minus hd] at this; exact this
 have d1: (1: Rat) = 1 / 1 := by grind
 have main := sub_step (o := o) (c := 1) (lc := 1) w1.1 hg.wf lg hm (by decide) hg.lead (jr o f g)
 rw [spm_eq]
 rcases main with ⟨uu, e⟩ | ⟨t, tc, ht, hne, hlt, uu, e⟩
 ·rw [← d1] at e
  rw [e]
  refine ⟨pd_wf w1 _, by lia, by lia, fun e he => ?_, fun e he => .inl (old e he)⟩
  obtain ⟨x, hx, h1, h2⟩ := old e he
  rw [h2]; exact ltf h1 (jl o f g)
 ·rw [← d1] at e
  rw [e]
  have a1 := wt_addT (pd_nodup w1.1 (jn o f g)) (mP t (mM (jn o f g) (lM o g))) (-(tc * 1))
  have a2 := addT_length (pd (shiftP f (mM (jn o f g) (lM o f)) 1) (jn o f g)) (mP t (mM (jn o f g) (lM o g))) (-(tc * 1))
  have a3 := sz_neg (tc * 1)
  have a4 := sz_mul tc 1
  have a5 := wg _ ht
  refine ⟨⟨addT_nodup (pd_nodup w1.1 _) _ _, addT_nz (pd_wf w1 _).2 _ _⟩, by lia, by simp only at a5; lia, fun e he => ?_, fun e he => ?_⟩
  ·rcases addT_mem he with q | q
   ·rw [q]; exact ltf hlt (jr o f g)
   ·obtain ⟨x, hx, h1, h2⟩ := old e q
    rw [h2]; exact ltf h1 (jl o f g)
  ·rcases addT_mem he with q | q
   ·exact .inr ⟨_, ht, hlt, q⟩
   ·exact .inl (old e q)
inductive MonF (o: Od) (p q: Po): Prop
 | mk (m1: Monic o q) (m2: q.length = p.length) (m3: ∃ l, lead o p = some l ∧ lM o q = l.1 ∧ ∀ k, ev p k = l.2 * ev q k) (m4: ∀ e ∈ q, ∃ x ∈ p, x.1 = e.1) (m5: ∀ C, wt p ≤ C → ∀ e ∈ q, sz e.2 ≤ C - 2)
theorem monic_facts {p: Po} (hp: Wf p) (hne: p ≠ []): MonF o p (monicP o p) := by
 obtain ⟨l, hl⟩: ∃ l, lead o p = some l := by
  cases q: lead o p with
  | none => exact absurd (lead_none.mp q) hne
  | some l => exact ⟨l, rfl⟩
 have hlm := lead_mem hl
 have hl0 := hp.2 _ hlm
 have hi0: l.2⁻¹ ≠ 0 := fun q => hl0 (by have: l.2 = l.2 * (l.2 * l.2⁻¹) := (by grind); rw [this, q]; grind)
 have em: monicP o p = p.map fun e => (e.1, e.2 * l.2⁻¹) := by
  unfold monicP; rw [hl]; simp only [scaleP]; rw [if_neg hi0]
 have keys: (monicP o p).map (·.1) = p.map (·.1) := by rw [em, List.map_map]; rfl
 have wf: Wf (monicP o p) := by
  refine ⟨by rw [keys]; exact hp.1, fun e he => ?_⟩
  rw [em] at he
  obtain ⟨x, hx, rfl⟩ := List.mem_map.mp he
  intro q
  rcases Rat.mul_eq_zero.mp q with q | q
  ·exact hp.2 x hx q
  ·exact hi0 q
 have e1: l.2 * l.2⁻¹ = 1 := by grind
 have ld: lead o (monicP o p) = some (l.1, 1) := by
  refine lead_of ?_ fun e he => ?_
  ·rw [em]; exact List.mem_map.mpr ⟨l, hlm, by rw [e1]⟩
  ·rw [em] at he
   obtain ⟨x, hx, rfl⟩ := List.mem_map.mp he
   rcases lead_lt hp.1 hl hx with q | q
   ·left; rw [q, e1]
   ·exact .inr q
 refine ⟨⟨wf, l.1, ld⟩, by rw [em, List.length_map], ⟨l, hl, (leadM_of ld: lM o (monicP o p) = (l.1, (1: Rat)).1), fun k => ?_⟩, fun e he => ?_, fun C hC e he => ?_⟩
 ·by_cases q: k ∈ p.map (·.1)
  ·obtain ⟨x, hx, rfl⟩ := List.mem_map.mp q
   have h2: (x.1, x.2 * l.2⁻¹) ∈ monicP o p := by rw [em]; exact List.mem_map.mpr ⟨x, hx, rfl⟩
   rw [ev_mem hp.1 hx]
   have := ev_mem wf.1 h2
   simp only at this
   rw [this]; grind
  ·have h1: ev p k = 0 := by show (pg p k).getD 0 = 0; rw [pg_none.mpr q]; rfl
   have h2: ev (monicP o p) k = 0 := by show (pg _ k).getD 0 = 0; rw [pg_none.mpr (by rw [keys]; exact q)]; rfl
   rw [h1, h2]; grind
 ·rw [em] at he
  obtain ⟨x, hx, rfl⟩ := List.mem_map.mp he
  exact ⟨x, hx, rfl⟩
 ·rw [em] at he
  obtain ⟨x, hx, rfl⟩ := List.mem_map.mp he
  by_cases q: x = l
  ·rw [q]; simp only; rw [e1, sz_one]; exact Nat.zero_le _
  ·have h1 := sz_mul x.2 l.2⁻¹
   have h2 := sz_inv hl0
   have h3: (sz x.2 + 1) + (sz l.2 + 1) ≤ wt p := by
    obtain ⟨q1, uu⟩ := wt_pd hp.1 (m := l.1) (c := l.2) hlm
    have hx2: x ∈ pd p l.1 := by
     unfold pd
     rw [List.mem_filter]
     refine ⟨hx,?_⟩
     have: x.1 ≠ l.1 := fun q2 => by
      have h5 := pg_mem hp.1 hx
      rw [q2, pg_mem hp.1 hlm] at h5
      exact q (Prod.ext q2 (Option.some.inj h5).symm)
     simpa using this
    have := wt_mem hx2
    lia
   simp only
   lia
end
end Mine.Internal.Pl
end
section
namespace Mine.Internal.Pl
noncomputable def DivS (o: Od) (f: Po) (G: List Po) (fin: DSt): Prop := Div o f G fin ∧ fin.left = [] ∧ ∃ R cost C T, DI o f G R cost C fin T
section
variable {o: Od} {G: List Po} {f g e: Po}
theorem mjoin_comm (a b: Mo): mjoin a b = mjoin b a := by rw [mo_eq]; simp only [mjoin]; lia
theorem Good.symm (h: Good o G f g): Good o G g f := by
 refine hide fun gg kk => ?_
 obtain ⟨lf, lg, h1, h2, h3⟩ := h
 refine kk ?_
 exact ⟨lg, lf, h2, h1, by rw [mjoin_comm]; exact h3.symm⟩
theorem Good.grow {G': List Po} (h: Good o G f g) (hg: ∀ g ∈ G, g ∈ G'): Good o G' f g := by
 refine hide fun gg kk => ?_
 obtain ⟨lf, lg, h1, h2, h3⟩ := h
 refine kk ?_
 exact ⟨lf, lg, h1, h2, h3.grow hg⟩
theorem Good.self (h: Monic o f): Good o G f f := ⟨_, _, h.lead, h.lead, Rel.refl h.lead (by rw [mdiv_iff]; simp only [mjoin]; lia)⟩
theorem good_of_sp (hf: Monic o f) (hg: Monic o g) (h: Sp o G (fun x => lt o x (jn o f g)) (ev (spm o f g))): Good o G f g :=
 ⟨_, _, hf.lead, hg.lead, _, _, hf.lead, hg.lead, jl o f g, jr o f g, h.cast fun k => (ev_spm hf hg k).symm⟩
theorem Good.rel (h: Good o G f g) (hf: Monic o f) (hg: Monic o g) {m: Mo} (h1: mdiv (lM o f) m = true) (h2: mdiv (lM o g) m = true): Rel o G m f g := by
 refine hide fun gg kk => ?_
 obtain ⟨lf, lg, e1, e2, h3⟩ := h
 refine kk ?_
 rw [hf.lead] at e1; cases e1
 rw [hg.lead] at e2; cases e2
 exact h3.of_dvd (join_dvd h1 h2)
theorem good_chain (hf: Monic o f) (hg: Monic o g) (he: Monic o e) (h1: Good o G f e) (h2: Good o G e g) (hd: mdiv (lM o e) (jn o f g) = true): Good o G f g :=
 ⟨_, _, hf.lead, hg.lead, (h1.rel hf he (jl o f g) hd).trans (h2.rel he hg hd (jr o f g))⟩
noncomputable def dl (m: Mo): Fn := fun k => if m = k then 1 else 0
theorem sh_dl (u m k: Mo): sh u (dl m) k = dl (mP m u) k := by
 unfold sh dl
 by_cases h: mdiv u k = true
 ·rw [if_pos h]
  simp only [shift_key, h, true_and]
 ·rw [if_neg h]
  simp only [shift_key, h, false_and]; simp
theorem two_terms (hf: Monic o f) (hl: f.length ≤ 2): ∃ (a: Rat) (s: Mo), (∀ k, ev f k = dl (lM o f) k + a * dl s k) ∧ (a ≠ 0 → lt o s (lM o f)) := by
 have hm := hf.mem
 rw [← rs_ev hf.wf.1]
 have cons2: ∀ x y: Mo × Rat, ∀ k, rs [x, y] k = x.2 * dl x.1 k + y.2 * dl y.1 k := fun x y k => by
  rw [rs_cons, rs_cons, rs_nil]; unfold dl
  by_cases h1: x.1 = k <;> by_cases h2: y.1 = k <;> simp only [h1, h2, if_true, if_false] <;> grind
 rcases len2 hl with rfl | ⟨x, rfl⟩ | ⟨x, y, rfl⟩
 ·cases hm
 ·have this: (lM o [x], (1: Rat)) = x := List.mem_singleton.mp hm
  refine ⟨0, (0, 0), fun k => ?_, fun q => absurd rfl q⟩
  have h2: rs [x] k = x.2 * dl x.1 k := by
   rw [rs_cons, rs_nil]; unfold dl
   by_cases h1: x.1 = k <;> simp only [h1, if_true, if_false] <;> grind
  have e1: (lM o [x], (1: Rat)).1 = x.1 := by rw [this]
  have e2: (lM o [x], (1: Rat)).2 = x.2 := by rw [this]
  simp only at e1 e2
  rw [h2, e1, ← e2]; grind
 ·have hn := hf.wf.1
  simp only [List.map_cons, List.map_nil, List.nodup_cons, List.mem_singleton] at hn
  have ld := hf.lead
  generalize lM o [x, y] = m at *
  rcases (by simpa using hm: (m, 1) = x ∨ (m, 1) = y) with q | q
  ·subst q
   refine ⟨y.2, y.1, fun k => ?_, fun uu => ?_⟩
   ·rw [cons2]; simp only; grind
   ·exact (lead_lt hf.wf.1 ld (e := y) (by simp)).resolve_left (fun q => hn.1 (by rw [q]))
  ·subst q
   refine ⟨x.2, x.1, fun k => ?_, fun uu => ?_⟩
   ·rw [cons2]; simp only; grind
   ·exact (lead_lt hf.wf.1 ld (e := x) (by simp)).resolve_left (fun q => hn.1 (by rw [q]))
theorem apart_iff {a b: Mo}: apart a b = true ↔ min a.1 b.1 + min a.2 b.2 = 0 := by simp [apart, mmeet]
theorem good_product (hf: Monic o f) (hg: Monic o g) (lf: f.length ≤ 2) (lg: g.length ≤ 2) (mf: f ∈ G) (mg: g ∈ G) (h: apart (lM o f) (lM o g) = true): Good o G f g := by
 refine good_of_sp hf hg ?_
 refine hide fun gg kk => ?_
 obtain ⟨a, s, ef, ha⟩ := two_terms hf lf
 obtain ⟨b, t, eg, hb⟩ := two_terms hg lg
 refine kk ?_
 have n1 := napart (Nat.add_eq_zero_iff.mp (apart_iff.mp h)).1
 have n2 := napart (Nat.add_eq_zero_iff.mp (apart_iff.mp h)).2
 have e1: mM (jn o f g) (lM o f) = lM o g := mo_eq.mpr ⟨n1.1, n2.1⟩
 have e2: mM (jn o f g) (lM o g) = lM o f := mo_eq.mpr ⟨n1.2.1, n2.2.1⟩
 have eJ: jn o f g = mP (lM o f) (lM o g) := mo_eq.mpr ⟨n1.2.2, n2.2.2⟩
 have evf: ev f = fun k => dl (lM o f) k + a * dl s k := funext ef
 have evg: ev g = fun k => dl (lM o g) k + b * dl t k := funext eg
 have shf: ∀ u k, sh u (ev f) k = dl (mP (lM o f) u) k + a * dl (mP s u) k := fun u k => by
  rw [evf, sh_add, sh_mul, sh_dl, sh_dl]
 have shg: ∀ u k, sh u (ev g) k = dl (mP (lM o g) u) k + b * dl (mP t u) k := fun u k => by
  rw [evg, sh_add, sh_mul, sh_dl, sh_dl]
 have p1: Sp o G (fun x => lt o x (jn o f g)) (fun k => a * sh s (ev g) k) := by
  by_cases q: a = 0
  ·exact Sp.zero.cast fun k => by rw [q]; grind
  ·refine Sp.one a s mg hg.lead ?_
   show lt o (mP s (lM o g)) _
   rw [eJ, mplus_comm s, mplus_comm (lM o f)]; exact lt_plus _ (ha q)
 have p2: Sp o G (fun x => lt o x (jn o f g)) (fun k => b * sh t (ev f) k) := by
  by_cases q: b = 0
  ·exact Sp.zero.cast fun k => by rw [q]; grind
  ·refine Sp.one b t mf hf.lead ?_
   show lt o (mP t (lM o f)) _
   rw [eJ, mplus_comm t]; exact lt_plus _ (hb q)
 refine (p1.sub p2).cast fun k => ?_
 rw [ev_spm hf hg, e1, e2, shf, shg, shf, shg, mplus_comm (lM o g) (lM o f), mplus_comm t s, mplus_comm (lM o g) s, mplus_comm (lM o f) t]
 rw [mplus_comm t (lM o f)]
 grind
structure BI (o: Od) (ps G: List Po) (waiting: List Pr): Prop where
 mon: ∀ g ∈ G, Monic o g ∧ g.length ≤ 2
 wait: ∀ (i j: Nat) (f g: Po), i < j → G[i]? = some f → G[j]? = some g → (i, j) ∈ waiting ∨ Good o G f g
 wmem: ∀ p ∈ waiting, p.1 < p.2 ∧ p.2 < G.length
 span: ∀ p ∈ ps, Sp o G (fun uu => True) (ev p)
theorem anyAt_iff' (t: Nat → Mo → Bool): ∀ (ls: List Mo) (a: Nat), anyAt t a ls = true → ∃ j x, ls[j]? = some x ∧ t (a + j) x = true
 | [], a, h => by cases h
 | m :: r, a, h => by
  rw [anyAt, Bool.or_eq_true] at h
  rcases h with h | h
  ·exact ⟨0, m, rfl, h⟩
  ·refine hide fun gg kk => ?_
   obtain ⟨j, x, h1, h2⟩ := anyAt_iff' t r (a + 1) h
   refine kk ?_
   exact ⟨j + 1, x, by simpa using h1, by rw [show a + (j + 1) = a + 1 + j by lia]; exact h2⟩
theorem leadAt_map {i: Nat} {f: Po} (h: G[i]? = some f): leadAt (G.map (lM o)) i = lM o f := by
 simp [leadAt, List.getD, h]
theorem mem_rem1 {ws: List Pr} {p q: Pr}: q ∈ rem1 ws p ↔ q ∈ ws ∧ q ≠ p := by simp [rem1]
variable {ps: List Po} {waiting: List Pr}
theorem BI.pair (b: BI o ps G waiting) {i j: Nat} (h: i < j) (hf: G[i]? = some f) (hg: G[j]? = some g) (hn: (i, j) ∉ waiting): Good o G f g := (b.wait i j f g h hf hg).resolve_left hn
theorem BI.needless (b: BI o ps G waiting) {p: Pr} (hp: p ∈ waiting) (hf: G[p.1]? = some f) (hg: G[p.2]? = some g) (h: needless p (rem1 waiting p) (G.map (lM o)) = true): Good o G f g := by
 have mf := List.mem_of_getElem? hf
 have mg := List.mem_of_getElem? hg
 refine hide fun gg kk => ?_
 obtain ⟨monf, lf⟩ := b.mon f mf
 obtain ⟨mong, lg⟩ := b.mon g mg
 refine kk ?_
 unfold Internal.needless at h
 rw [leadAt_map hf, leadAt_map hg, Bool.or_eq_true] at h
 rcases h with h | h
 ·exact good_product monf mong lf lg mf mg h
 ·refine hide fun gg kk => ?_
  obtain ⟨j, x, hj, hx⟩ := anyAt_iff' _ _ _ h
  refine kk ?_
  rw [Nat.zero_add] at hx
  rw [List.getElem?_map] at hj
  refine hide fun gg kk => ?_
  obtain ⟨e, he, rfl⟩ := Option.map_eq_some_iff.mp hj
  refine kk ?_
  simp only [chained, Bool.and_eq_true, Bool.not_eq_true', Bool.or_eq_false_iff, beq_eq_false_iff_ne] at hx
  refine hide fun gg kk => ?_
  obtain ⟨⟨⟨h1, h2⟩, h3⟩, h4, h5⟩ := hx
  refine kk ?_
  have mone := (b.mon e (List.mem_of_getElem? he)).1
  have notw: ∀ {a: Nat}, (rem1 waiting p).contains (srt a j) = false → srt a j ≠ p → srt a j ∉ waiting := fun {a} hc hne hm => by
   have: (rem1 waiting p).contains (srt a j) = true := List.contains_iff_mem.mpr (mem_rem1.mpr ⟨hm, hne⟩)
   rw [hc] at this; cases this
  have ne: ∀ {a: Nat}, srt a j ≠ p := fun {a} q => by
   have e1: p.1 = min a j := by rw [← q]; rfl
   have e2: p.2 = max a j := by rw [← q]; rfl
   lia
  have both: ∀ {a: Nat} {f: Po}, G[a]? = some f → a ≠ j → srt a j ∉ waiting → Good o G f e := fun {a f} hf hne hn => by
   rcases Nat.lt_or_ge a j with q | q
   ·refine b.pair q hf he ?_
    have: srt a j = (a, j) := by unfold srt; rw [Nat.min_eq_left (by exact Nat.le_of_lt ‹_›), Nat.max_eq_right (by exact Nat.le_of_lt ‹_›)]
    rw [← this]; exact hn
   ·refine (b.pair (show j < a by lia) he hf ?_).symm
    have: srt a j = (j, a) := by unfold srt; rw [Nat.min_eq_right (by assumption), Nat.max_eq_left (by assumption)]
    rw [← this]; exact hn
  exact good_chain monf mong mone (both hf h1 (notw h4 ne)) (both hg h2 (notw h5 ne)).symm h3
theorem BI.drop (b: BI o ps G waiting) {p: Pr} (hf: G[p.1]? = some f) (hg: G[p.2]? = some g) (h: Good o G f g): BI o ps G (rem1 waiting p) := by
 refine ⟨b.mon, fun i j f' g' hij hi hj => ?_, fun q hq => b.wmem q (mem_rem1.mp hq).1, b.span⟩
 rcases b.wait i j f' g' hij hi hj with q | q
 ·by_cases e: (i, j) = p
  ·subst e
   rw [hf] at hi; cases hi
   rw [hg] at hj; cases hj
   exact .inr h
  ·exact .inl (mem_rem1.mpr ⟨q, e⟩)
 ·exact .inr q
theorem lt_of_dom {f: Po} {m J: Mo} (hJ: ∀ e ∈ f, lt o e.1 J) (h: ∃ e ∈ f, ¬ lt o e.1 m): lt o m J := by
 refine hide fun gg kk => ?_
 obtain ⟨e, he, h⟩ := h
 refine kk ?_
 exact nlt_trans h (hJ e he)
theorem BI.reduce (b: BI o ps G waiting) {p: Pr} (hp: p ∈ waiting) (hf: G[p.1]? = some f) (hg: G[p.2]? = some g) {fin: DSt} (hd: DivS o (spm o f g) G fin) :
  (fin.rest = [] → BI o ps G (rem1 waiting p)) ∧ (fin.rest ≠ [] → BI o ps (G ++ [monicP o fin.rest]) (rem1 waiting p ++ pairsTo G.length)) := by
 have mf := List.mem_of_getElem? hf
 have mg := List.mem_of_getElem? hg
 refine hide fun gg kk => ?_
 obtain ⟨monf, lf⟩ := b.mon f mf
 obtain ⟨mong, lg⟩ := b.mon g mg
 obtain ⟨uu, hl, R, cost, C, T, h⟩ := hd
 refine kk ?_
 have hsm: ∀ e ∈ spm o f g, lt o e.1 (jn o f g) := by
  have hw: ∀ p: Po, ∃ W, ∀ e ∈ p, sz e.2 ≤ W := fun p => ⟨wt p, fun e he => by have := wt_mem he; exact Nat.le_of_lt ‹_›⟩
  refine hide fun gg kk => ?_
  obtain ⟨W1, w1⟩ := hw f
  obtain ⟨W2, w2⟩ := hw g
  refine kk ?_
  exact (spm_facts monf mong lf lg (W := W1 + W2) (fun e he => by have := w1 e he; exact Nat.le_trans ‹_› (Nat.le_add_right _ _)) (fun e he => by have := w2 e he; exact Nat.le_trans ‹_› (Nat.le_add_left _ _))).2.2.2.1
 have sp1: Sp o G (fun x => lt o x (jn o f g)) (fun k => ev (spm o f g) k - ev fin.rest k) := h.sp hl fun m hm => lt_of_dom hsm hm
 refine ⟨fun hr => b.drop hf hg (good_of_sp monf mong (sp1.cast fun k => by rw [hr, ev_nil]; grind)), fun hr => ?_⟩
 refine hide fun gg kk => ?_
 obtain ⟨m1, m2, ⟨l, hl1, hl2, hl3⟩, uu, uu⟩ := monic_facts (o := o) h.wfr hr
 refine kk ?_
 have sub: ∀ x ∈ G, x ∈ G ++ [monicP o fin.rest] := fun x hx => List.mem_append_left _ hx
 have hgood: Good o (G ++ [monicP o fin.rest]) f g := by
  refine good_of_sp monf mong ?_
  have hlt: lt o l.1 (jn o f g) := by
   have hlm := lead_mem hl1
   have h1: ev fin.rest l.1 ≠ 0 := by rw [ev_mem h.wfr.1 hlm]; exact h.wfr.2 _ hlm
   cases Classical.em (lt o l.1 (jn o f g)) with
   | inl q => exact q
   | inr q =>
    exfalso
    apply h1
    have z1: ev (spm o f g) l.1 = 0 := by
     cases Classical.em (ev (spm o f g) l.1 = 0) with
     | inl z => exact z
     | inr z =>
      obtain ⟨c, hc⟩ := ev_ne z
      exact absurd (hsm _ hc) q
    have z2 := sp1.above (k := l.1) (fun g hg => (b.mon g hg).1.wf.1) (fun m hm => by
     rcases lt_total o (jn o f g) l.1 with e | e | e
     ·rw [← e]; exact hm
     ·exact lt_trans' hm e
     ·exact absurd e q)
    grind
  have s2: Sp o (G ++ [monicP o fin.rest]) (fun x => lt o x (jn o f g)) (fun k => l.2 * sh (0, 0) (ev (monicP o fin.rest)) k) := by
   refine Sp.one l.2 (0, 0) (by simp) m1.lead ?_
   show lt o (mP (0, 0) (lM o (monicP o fin.rest))) _
   have: mP (0, 0) (lM o (monicP o fin.rest)) = l.1 := by rw [hl2, mo_eq]; simp [mP]
   rw [this]; exact hlt
  refine ((sp1.grow sub).add s2).cast fun k => ?_
  have: sh (0, 0) (ev (monicP o fin.rest)) k = ev (monicP o fin.rest) k := by
   unfold sh
   have h1: mdiv (0, 0) k = true := by rw [mdiv_iff]; simp
   rw [if_pos h1]; rfl
  rw [this, ← hl3]; grind
 have b1: ∀ (i j: Nat) (f' g': Po), i < j → (G ++ [monicP o fin.rest])[i]? = some f' → (G ++ [monicP o fin.rest])[j]? = some g' → (i, j) ∈ rem1 waiting p ++ pairsTo G.length ∨ Good o (G ++ [monicP o fin.rest]) f' g' := by
  intro i j f' g' hij hi hj
  have hjl := (List.getElem?_eq_some_iff.mp hj).1
  rw [List.length_append, List.length_singleton] at hjl
  by_cases q: j = G.length
  ·subst q
   refine .inl (List.mem_append_right _ ?_)
   unfold pairsTo
   exact List.mem_map.mpr ⟨i, List.mem_range.mpr hij, rfl⟩
  ·rw [List.getElem?_append_left (by lia)] at hi hj
   rcases b.wait i j f' g' hij hi hj with e | e
   ·by_cases e2: (i, j) = p
    ·subst e2
     rw [hf] at hi; cases hi
     rw [hg] at hj; cases hj
     exact .inr hgood
    ·exact .inl (List.mem_append_left _ (mem_rem1.mpr ⟨e, e2⟩))
   ·exact .inr (e.grow sub)
 refine ⟨fun x hx => ?_, b1, fun q hq => ?_, fun q hq => (b.span q hq).grow sub⟩
 ·rcases List.mem_append.mp hx with hx | hx
  ·exact b.mon x hx
  ·rw [List.mem_singleton] at hx; rw [hx]
   refine ⟨m1,?_⟩
   rw [m2]
   have h1 := h.len
   rw [hl] at h1
   have hw: ∀ p: Po, ∃ W, ∀ e ∈ p, sz e.2 ≤ W := fun p => ⟨wt p, fun e he => by have := wt_mem he; exact Nat.le_of_lt ‹_›⟩
   refine hide fun gg kk => ?_
   obtain ⟨W1, w1⟩ := hw f
   obtain ⟨W2, w2⟩ := hw g
   refine kk ?_
   have h2 := (spm_facts monf mong lf lg (W := W1 + W2) (fun e he => by have := w1 e he; exact Nat.le_trans ‹_› (Nat.le_add_right _ _)) (fun e he => by have := w2 e he; exact Nat.le_trans ‹_› (Nat.le_add_left _ _))).2.1
   simp only [List.length_nil, Nat.zero_add] at h1
   exact Nat.le_trans ‹_› ‹_›
 ·rw [List.length_append, List.length_singleton]
  rcases List.mem_append.mp hq with hq | hq
  ·have := b.wmem q (mem_rem1.mp hq).1; lia
  ·unfold pairsTo at hq
   refine hide fun gg kk => ?_
   obtain ⟨i, hi, rfl⟩ := List.mem_map.mp hq
   refine kk ?_
   have := List.mem_range.mp hi
   exact ⟨this, by simp⟩
end
end Mine.Internal.Pl
end
section
namespace Mine.Internal.Pl
noncomputable def SpD (o: Od) (G: List Po) (f g: Po) (fin: DSt): Prop :=
 OkP (shiftP f (mM (jn o f g) (lM o f)) 1) ∧ OkP (shiftP g (mM (jn o f g) (lM o g)) 1) ∧ DivS o (spm o f g) G fin
structure Fam (o: Od) (ps: List Po) where
 I: Nat → List Po → Prop
 start: I 0 (ps.map (monicP o))
 rules: ∀ k G, I k G → ∀ g ∈ G, Monic o g ∧ g.length ≤ 2 ∧ OkP g
 len: ∀ k G, I k G → G.length ≤ 10 + k
 sp: ∀ k G, I k G → k ≤ 3 → ∀ (i j: Nat) (f g: Po), i < j → G[i]? = some f → G[j]? = some g → apart (lM o f) (lM o g) = false →
  ∃ fin, SpD o G f g fin ∧ OkP fin.rest ∧ (fin.rest ≠ [] → I (k + 1) (G ++ [monicP o fin.rest]))
 fin: ∀ k G, I k G → k ≤ 4 → ∀ (i j: Nat) (f g: Po), j < i → G[i]? = some f → G[j]? = some g → ∃ fin, SpD o G f g fin
 mem: ∀ k G, I k G → k ≤ 4 → ∀ p ∈ ps, ∃ fin, DivS o p G fin
section
variable {o: Od} {ps: List Po}
theorem SpD.red {G: List Po} {f g: Po} {fin: DSt} (h: SpD o G f g fin) (hf: Monic o f) (hg: Monic o g) (okf: OkP f) (okg: OkP g): SpRed o G f g fin := by
 obtain ⟨h1, h2, h3, uu⟩ := h
 have i1: (1: Rat)⁻¹ = 1 := by grind
 refine ⟨_, _, hf.lead, hg.lead, okf, okg,?_,?_, h3⟩
 ·simp only [i1]; exact h1
 ·simp only [i1]; exact h2
theorem leastP_mem' {o: Od} {ls: List Mo} {ws: List Pr} {p: Pr} (h: leastP o ls ws = some p): p ∈ ws := by
 have: ∀ (ws: List Pr) (b: Option Pr), ws.foldl (lessP o ls) b = some p → b = some p ∨ p ∈ ws := by
  intro ws
  induction ws with
  | nil => intro b h; exact .inl h
  | cons e ws ih =>
   intro b h
   rcases ih _ h with q | q
   ·cases b with
    | none => cases q; exact .inr (.head _)
    | some b =>
     simp only [lessP] at q
     split at q
     ·cases q; exact .inr (.head _)
     ·exact .inl q
   ·exact .inr (.tail _ q)
 rcases this ws none h with q | q
 ·cases q
 ·exact q
theorem leastP_nil' {o: Od} {ls: List Mo} {ws: List Pr} (h: leastP o ls ws = none): ws = [] := by
 cases ws with
 | nil => rfl
 | cons e ws =>
  exfalso
  have: ∀ (ws: List Pr) (b: Pr), ws.foldl (lessP o ls) (some b) ≠ none := by
   intro ws
   induction ws with
   | nil => intro b h; cases h
   | cons e ws ih =>
    intro b h
    simp only [List.foldl_cons, lessP] at h
    split at h
    ·exact ih _ h
    ·exact ih _ h
  exact this ws e h
theorem rem1_lt {ws: List Pr} {p: Pr} (h: p ∈ ws): (rem1 ws p).length < ws.length := by
 unfold rem1
 rcases Nat.lt_or_ge (ws.filter fun q => decide (q ≠ p)).length ws.length with q | q
 ·exact q
 ·exfalso
  have h1 := List.length_filter_le (fun q => decide (q ≠ p)) ws
  have h2: (ws.filter fun q => decide (q ≠ p)).length = ws.length := by lia
  have := List.length_filter_eq_length_iff.mp h2 p h
  simp at this
theorem n4 {x a: Nat} (h: 4 - x = a) (h4: x + 1 ≤ 4): 4 - (x + 1) = a - 1 := by rw [← h]; rfl
theorem n41 {x a: Nat} (h: 4 - x = a) (h4: x + 1 ≤ 4): a - 1 < a := Nat.sub_lt (h ▸ Nat.sub_pos_of_lt h4) Nat.zero_lt_one
theorem run4 (F: Fam o ps): ∀ (a b: Nat) (st: GSt) (k: Nat), 4 - st.done = a → st.waiting.length = b → st.done ≤ 4 → k ≤ st.done → F.I k st.basis → BI o ps st.basis st.waiting → st.leads = st.basis.map (lM o) →
  ∃ n r, GRun o 4 n st r ∧ ∀ G, r = some G → ∃ k, k ≤ 4 ∧ F.I k G ∧ BI o ps G [] := by
 intro a
 induction a using Nat.strongRecOn with
 | _ a iha =>
 intro b
 induction b using Nat.strongRecOn with
 | _ b ihb =>
 intro st k ha hb hd hk hI hB hl
 cases hp: leastP o st.leads st.waiting with
 | none =>
  have hw := leastP_nil' hp
  refine ⟨0, _, .stop hw, fun G hG => ?_⟩
  cases hG
  rw [hw] at hB
  exact ⟨k, by exact Nat.le_trans ‹_› ‹_›, hI, hB⟩
 | some p =>
  have hm := leastP_mem' hp
  obtain ⟨p1, p2⟩ := hB.wmem p hm
  obtain ⟨f, hf⟩: ∃ f, st.basis[p.1]? = some f := ⟨_, List.getElem?_eq_getElem (Nat.lt_trans p1 p2)⟩
  obtain ⟨g, hg⟩: ∃ g, st.basis[p.2]? = some g := ⟨_, List.getElem?_eq_getElem p2⟩
  have hlt := rem1_lt hm
  cases hn: needless p (rem1 st.waiting p) st.leads with
  | true =>
   have hB' := hB.drop hf hg (hB.needless hm hf hg (by rw [← hl]; exact hn))
   obtain ⟨n, r, r1, r2⟩ := ihb _ (by rw [← hb]; exact hlt) { st with waiting := rem1 st.waiting p } k ha rfl hd hk hI hB' hl
   exact ⟨n + 1, r, .step (.skip hp hn) r1, r2⟩
  | false =>
   by_cases h4: st.done + 1 ≤ 4
   ·have hap: apart (lM o f) (lM o g) = false := by
     unfold needless at hn
     rw [hl, leadAt_map hf, leadAt_map hg, Bool.or_eq_false_iff] at hn
     exact hn.1
    obtain ⟨fin, hsp, okr, hI'⟩ := F.sp k _ hI (by lia) p.1 p.2 f g p1 hf hg hap
    obtain ⟨monf, uu, okf⟩ := F.rules k _ hI f (List.mem_of_getElem? hf)
    obtain ⟨mong, uu, okg⟩ := F.rules k _ hI g (List.mem_of_getElem? hg)
    obtain ⟨ok1, ok2, hdiv⟩ := hsp
    have i1: (1: Rat)⁻¹ = 1 := by grind
    have a1: OkP (shiftP f (mM (mjoin (lM o f, (1: Rat)).1 (lM o g, (1: Rat)).1) (lM o f, (1: Rat)).1) (lM o f, (1: Rat)).2⁻¹) := by simp only [i1]; exact ok1
    have a2: OkP (shiftP g (mM (mjoin (lM o f, (1: Rat)).1 (lM o g, (1: Rat)).1) (lM o g, (1: Rat)).1) (lM o g, (1: Rat)).2⁻¹) := by simp only [i1]; exact ok2
    obtain ⟨b1, b2⟩ := hB.reduce hm hf hg hdiv
    by_cases hr: fin.rest = []
    ·obtain ⟨n, r, r1, r2⟩ := iha (a - 1) (n41 ha h4) _ { st with waiting := rem1 st.waiting p, done := st.done + 1 } k (n4 ha h4) rfl h4 (Nat.le_succ_of_le hk) hI (b1 hr) hl
     exact ⟨n + 1, r, .step (.zero hp hn h4 hf hg monf.lead mong.lead okf okg a1 a2 hdiv.1 hr) r1, r2⟩
    ·obtain ⟨lr, hlr⟩: ∃ lr, lead o fin.rest = some lr := by
      cases q: lead o fin.rest with
      | none => exact absurd (lead_none.mp q) hr
      | some l => exact ⟨l, rfl⟩
     have hlead: lM o (monicP o fin.rest) = lr.1 := by
      obtain ⟨uu, uu, ⟨l, e1, e2, uu⟩, uu, uu⟩ := monic_facts (o := o) okr.wf hr
      rw [hlr] at e1; cases e1; exact e2
     obtain ⟨n, r, r1, r2⟩ := iha (a - 1) (n41 ha h4) _ ⟨st.basis ++ [monicP o fin.rest], st.leads ++ [lr.1], rem1 st.waiting p ++ pairsTo st.basis.length, st.done + 1⟩ (k + 1) (n4 ha h4) rfl h4 (Nat.succ_le_succ hk) (hI' hr) (b2 hr) (by simp only; rw [hl, List.map_append, List.map_singleton, hlead])
     exact ⟨n + 1, r, .step (.grow hp hn h4 hf hg monf.lead mong.lead okf okg a1 a2 hdiv.1 hlr okr) r1, r2⟩
   ·exact ⟨0, none, .limit hp hn (by exact Nat.not_le.mp ‹_›), fun G hG => by cases hG⟩
theorem fewer {n: Nat} {st: GSt} {r: Option (List Po)} (h: GRun o 4 n st r) :
  (∀ G, r = some G → ∃ d, st.done ≤ d ∧ d ≤ max 4 st.done ∧ ∀ most, st.done ≤ most → ∃ n', GRun o most n' st (if most < d then none else some G)) ∧
  (r = none → ∀ most, st.done ≤ most → most ≤ 4 → ∃ n', GRun o most n' st none) := by
 induction h with
 | stop hw =>
  refine ⟨fun G hG => ?_, fun q => by cases q⟩
  cases hG
  exact ⟨_, Nat.le_refl _, by lia, fun most hm => ⟨0, by rw [if_neg (by exact Nat.not_lt.mpr ‹_›)]; exact .stop hw⟩⟩
 | limit hp hn hd => exact ⟨fun G hG => (by cases hG), fun uu most hm h4 => ⟨0, .limit hp hn (by exact Nat.lt_of_le_of_lt ‹_› ‹_›)⟩⟩
 | @step n st st' r hs hr ih =>
  cases hs with
  | skip hp hn =>
   refine ⟨fun G hG => ?_, fun q most hm h4 => ?_⟩
   ·obtain ⟨d, h1, h2, h3⟩ := ih.1 G hG
    refine ⟨d, h1, h2, fun most hm => ?_⟩
    obtain ⟨n', r'⟩ := h3 most hm
    exact ⟨n' + 1, .step (.skip hp hn) r'⟩
   ·obtain ⟨n', r'⟩ := ih.2 q most hm h4
    exact ⟨n' + 1, .step (.skip hp hn) r'⟩
  | zero hp hn h4 a1 a2 a3 a4 a5 a6 a7 a8 a9 a10 =>
   refine ⟨fun G hG => ?_, fun q most hm hm4 => ?_⟩
   ·obtain ⟨d, h1, h2, h3⟩ := ih.1 G hG
    simp only at h1 h2 h3
    refine ⟨d, by exact Nat.le_of_lt ‹_›, by lia, fun most hm => ?_⟩
    by_cases q: st.done + 1 ≤ most
    ·obtain ⟨n', r'⟩ := h3 most q
     exact ⟨n' + 1, .step (.zero hp hn q a1 a2 a3 a4 a5 a6 a7 a8 a9 a10) r'⟩
    ·exact ⟨0, by rw [if_pos (by lia)]; exact .limit hp hn (by exact Nat.not_le.mp ‹_›)⟩
   ·by_cases q2: st.done + 1 ≤ most
    ·obtain ⟨n', r'⟩ := ih.2 q most q2 hm4
     exact ⟨n' + 1, .step (.zero hp hn q2 a1 a2 a3 a4 a5 a6 a7 a8 a9 a10) r'⟩
    ·exact ⟨0, .limit hp hn (by exact Nat.not_le.mp ‹_›)⟩
  | grow hp hn h4 a1 a2 a3 a4 a5 a6 a7 a8 a9 a10 a11 =>
   refine ⟨fun G hG => ?_, fun q most hm hm4 => ?_⟩
   ·obtain ⟨d, h1, h2, h3⟩ := ih.1 G hG
    simp only at h1 h2 h3
    refine ⟨d, by exact Nat.le_of_lt ‹_›, by lia, fun most hm => ?_⟩
    by_cases q: st.done + 1 ≤ most
    ·obtain ⟨n', r'⟩ := h3 most q
     exact ⟨n' + 1, .step (.grow hp hn q a1 a2 a3 a4 a5 a6 a7 a8 a9 a10 a11) r'⟩
    ·exact ⟨0, by rw [if_pos (by lia)]; exact .limit hp hn (by exact Nat.not_le.mp ‹_›)⟩
   ·by_cases q2: st.done + 1 ≤ most
    ·obtain ⟨n', r'⟩ := ih.2 q most q2 hm4
     exact ⟨n' + 1, .step (.grow hp hn q2 a1 a2 a3 a4 a5 a6 a7 a8 a9 a10 a11) r'⟩
    ·exact ⟨0, .limit hp hn (by exact Nat.not_le.mp ‹_›)⟩
theorem bi_good {G: List Po} (h: BI o ps G []): ∀ f ∈ G, ∀ g ∈ G, Good o G f g := by
 intro f hf g hg
 obtain ⟨i, hi⟩ := List.getElem?_of_mem hf
 obtain ⟨j, hj⟩ := List.getElem?_of_mem hg
 rcases Nat.lt_trichotomy i j with q | q | q
 ·exact h.pair q hi hj (by simp)
 ·subst q; rw [hi] at hj; cases hj; exact .self (h.mon f hf).1
 ·exact (h.pair q hj hi (by simp)).symm
theorem spm_span {G: List Po} {f g: Po} (hf: Monic o f) (hg: Monic o g) (mf: f ∈ G) (mg: g ∈ G): Sp o G (fun uu => True) (ev (spm o f g)) := by
 refine ((Sp.one 1 (mM (jn o f g) (lM o f)) mf hf.lead True.intro).sub (Sp.one 1 (mM (jn o f g) (lM o g)) mg hg.lead True.intro)).cast fun k => ?_
 rw [ev_spm hf hg]; grind
theorem good_self {G: List Po} (h: ∀ g ∈ G, Monic o g): good G = G := by
 unfold good
 rw [List.filter_eq_self]
 intro g hg
 have: g ≠ [] := fun q => by have := (h g hg).mem; rw [q] at this; cases this
 simpa using this
theorem bound_of (F: Fam o ps) (hps: ∀ p ∈ ps, Wf p ∧ p ≠ [] ∧ p.length ≤ 2) :
  ∃ (k: Nat) (G: List Po), (∀ most, most < 5 → ∃ n, GRun o most n (gInit o ps) (if most < k then none else some G)) ∧
  (k < 5 → G.length ≤ 100 ∧ (∀ p ∈ G, p.length ≤ 100000 ∧ (p.map (·.1)).Nodup) ∧ (∀ (i j: Nat) (f g: Po), j < i → (good G)[i]? = some f → (good G)[j]? = some g → ∃ fin, SpRed o (good G) f g fin ∧ fin.rest = []) ∧ ∀ p ∈ ps, ∃ fin, Div o p G fin ∧ fin.rest = []) := by
 have hB0: BI o ps (ps.map (monicP o)) (pairs0 ps.length) := by
  have pairs: ∀ n: Nat, ∀ i j, i < j → j < n → (i, j) ∈ pairs0 n := by
   intro n i j h1 h2
   unfold pairs0
   exact List.mem_flatMap.mpr ⟨j, List.mem_range.mpr h2, List.mem_map.mpr ⟨i, List.mem_range.mpr h1, rfl⟩⟩
  refine ⟨fun g hg => ?_, fun i j f g h1 h2 h3 => ?_, fun p hp => ?_, fun p hp => ?_⟩
  ·obtain ⟨p, hp, rfl⟩ := List.mem_map.mp hg
   obtain ⟨w1, w2, w3⟩ := hps p hp
   obtain ⟨m1, m2, uu, uu, uu⟩ := monic_facts (o := o) w1 w2
   exact ⟨m1, by lia⟩
  ·have := (List.getElem?_eq_some_iff.mp h3).1
   rw [List.length_map] at this
   exact .inl (pairs _ i j h1 this)
  ·unfold pairs0 at hp
   obtain ⟨j, hj, hp⟩ := List.mem_flatMap.mp hp
   obtain ⟨i, hi, rfl⟩ := List.mem_map.mp hp
   rw [List.length_map]
   exact ⟨List.mem_range.mp hi, List.mem_range.mp hj⟩
  ·obtain ⟨w1, w2, w3⟩ := hps p hp
   obtain ⟨m1, m2, ⟨l, uu, uu, h3⟩, uu, uu⟩ := monic_facts (o := o) w1 w2
   refine (Sp.one l.2 (0, 0) (List.mem_map_of_mem hp) m1.lead True.intro).cast fun k => ?_
   have: sh (0, 0) (ev (monicP o p)) k = ev (monicP o p) k := by
    unfold sh
    have h1: mdiv (0, 0) k = true := by rw [mdiv_iff]; simp
    rw [if_pos h1]; rfl
   rw [this, h3]
 obtain ⟨n, r, hr, hfin⟩ := run4 F 4 (pairs0 ps.length).length (gInit o ps) 0 rfl rfl (by simp [gInit]) (Nat.zero_le _) F.start hB0 rfl
 obtain ⟨f1, f2⟩ := fewer hr
 cases r with
 | none =>
  refine ⟨5, [], fun most hm => ?_, fun q => by lia⟩
  rw [if_pos hm]
  exact f2 rfl most (Nat.zero_le _) (by exact Nat.le_of_lt_succ ‹_›)
 | some G =>
  obtain ⟨d, uu, uu, h3⟩ := f1 G rfl
  obtain ⟨k, hk, hI, hB⟩ := hfin G rfl
  have hmon: ∀ g ∈ G, Monic o g := fun g hg => (F.rules k G hI g hg).1
  have hgood := bi_good hB
  refine ⟨d, G, fun most hm => h3 most (Nat.zero_le _), fun uu => ⟨?_, fun p hp => ?_, fun i j f g hij hi hj => ?_, fun p hp => ?_⟩⟩
  ·have := F.len k G hI; lia
  ·obtain ⟨m1, m2, uu⟩ := F.rules k G hI p hp
   exact ⟨by exact Nat.le_trans ‹_› (by decide), m1.wf.1⟩
  ·rw [good_self hmon] at hi hj ⊢
   have mf := List.mem_of_getElem? hi
   have mg := List.mem_of_getElem? hj
   obtain ⟨monf, uu, okf⟩ := F.rules k G hI f mf
   obtain ⟨mong, uu, okg⟩ := F.rules k G hI g mg
   obtain ⟨fin, hs⟩ := F.fin k G hI hk i j f g hij hi hj
   refine ⟨fin, hs.red monf mong okf okg,?_⟩
   obtain ⟨uu, uu, uu, hl, R, cost, C, T, h⟩ := hs
   exact rest_nil h hl hmon hgood (spm_span monf mong mf mg)
  ·obtain ⟨fin, hd, hl, R, cost, C, T, h⟩ := F.mem k G hI hk p hp
   exact ⟨fin, hd, rest_nil h hl hmon hgood (hB.span p hp)⟩
end
end Mine.Internal.Pl
end
section
namespace Mine.Internal.Pl
noncomputable def SM (m: Mo): Prop := (m.1 ≤ 2 ∧ m.2 ≤ 1) ∨ (m.1 ≤ 1 ∧ m.2 ≤ 2)
theorem SM.x {m: Mo} (h: SM m): m.1 ≤ 2 := h.elim (fun q => q.1) fun q => Nat.le_succ_of_le q.1
theorem SM.y {m: Mo} (h: SM m): m.2 ≤ 2 := h.elim (fun q => Nat.le_succ_of_le q.2) fun q => q.2
theorem SM.join {a b: Mo} (ha: SM a) (hb: SM b): max a.1 b.1 + max a.2 b.2 ≤ 4 := Nat.add_le_add (Nat.max_le.mpr ⟨ha.x, hb.x⟩) (Nat.max_le.mpr ⟨ha.y, hb.y⟩)
theorem start_form {p: Po} (h: StartP p): (∃ m c, SM m ∧ (c = 1 ∨ c = 2) ∧ p = [(m, c)]) ∨ ∃ (m1 m2: Mo) (c: Rat), m1 ≠ m2 ∧ m1.1 ≤ 2 ∧ m1.2 ≤ 1 ∧ m2.1 ≤ 1 ∧ m2.2 ≤ 2 ∧ (c = 1 ∨ c = 2) ∧ p = [(m1, 1), (m2, c)] := by
 obtain ⟨m1, a1, a2, h⟩ := h
 rcases h with rfl | ⟨m2, c, b1, b2, hc, rfl⟩
 ·exact .inl ⟨m1, 1, .inl ⟨a1, a2⟩, .inl rfl, rfl⟩
 ·by_cases q: m1 = m2
  ·subst q
   refine .inl ⟨m1, c, .inl ⟨a1, a2⟩, hc,?_⟩
   simp [pp, pg]
  ·refine .inr ⟨m1, m2, c, q, a1, a2, b1, b2, hc,?_⟩
   simp [pp, pg, q]
theorem sz_two: sz 2 = 1 := by decide
theorem sz_12 {c: Rat} (h: c = 1 ∨ c = 2): sz c ≤ 1 ∧ c ≠ 0 := by
 rcases h with rfl | rfl
 ·exact ⟨by rw [sz_one]; exact Nat.zero_le _, by decide⟩
 ·exact ⟨by rw [sz_two]; exact Nat.le_refl _, by decide⟩
structure StartF (p: Po): Prop where
 wf: Wf p
 ne: p ≠ []
 len: p.length ≤ 2
 okp: OkP p
 wt: wt p ≤ 3
 sm: ∀ e ∈ p, SM e.1
 ss: ∀ e ∈ p, sz e.2 ≤ 1
theorem start_facts {p: Po} (h: StartP p): StartF p := by
 have box: ∀ m: Mo, SM m → m.1 ≤ 200 ∧ m.2 ≤ 200 := fun m h => by unfold SM at h; lia
 rcases start_form h with ⟨m, c, hm, hc, rfl⟩ | ⟨m1, m2, c, hne, a1, a2, b1, b2, hc, rfl⟩
 ·obtain ⟨s1, s2⟩ := sz_12 hc
  have wf: Wf [(m, c)] := ⟨by simp, by simpa using s2⟩
  refine ⟨wf, by simp, by simp, okP_of wf ?_ ?_ (by simp),?_,?_,?_⟩
  ·intro e he; rw [List.mem_singleton] at he; rw [he]; simp only; exact Nat.le_trans ‹_› (by decide)
  ·intro e he; rw [List.mem_singleton] at he; rw [he]; exact box _ hm
  ·rw [wt_cons, wt_nil]; simp only; exact Nat.lt_of_le_of_lt ‹_› (by decide)
  ·intro e he; rw [List.mem_singleton] at he; rw [he]; exact hm
  ·intro e he; rw [List.mem_singleton] at he; rw [he]; exact s1
 ·obtain ⟨s1, s2⟩ := sz_12 hc
  have wf: Wf [(m1, (1: Rat)), (m2, c)] := by
   refine ⟨by simp [hne], fun e he => ?_⟩
   rcases List.mem_cons.mp he with rfl | he
   ·show (1: Rat) ≠ 0; decide
   ·rw [List.mem_singleton] at he; rw [he]; exact s2
  have each: ∀ e ∈ [(m1, (1: Rat)), (m2, c)], SM e.1 ∧ sz e.2 ≤ 1 := fun e he => by
   rcases List.mem_cons.mp he with rfl | he
   ·exact ⟨.inl ⟨a1, a2⟩, by simp only; rw [sz_one]; exact Nat.zero_le _⟩
   ·rw [List.mem_singleton] at he; rw [he]; exact ⟨.inr ⟨b1, b2⟩, s1⟩
  refine ⟨wf, by simp, by simp, okP_of wf (fun e he => by have := (each e he).2; exact Nat.le_trans ‹_› (by decide)) (fun e he => box _ (each e he).1) (by simp),?_, fun e he => (each e he).1, fun e he => (each e he).2⟩
  rw [wt_cons, wt_cons, wt_nil, sz_one]; simp only; lia
structure StartM (o: Od) (q: Po): Prop where
 mon: Monic o q
 len: q.length ≤ 2
 okp: OkP q
 sm: ∀ e ∈ q, SM e.1
 ss: ∀ e ∈ q, sz e.2 ≤ 1
theorem start_monic (o: Od) {p: Po} (h: StartP p): StartM o (monicP o p) := by
 have F := start_facts h
 obtain ⟨m1, m2, uu, m4, m5⟩ := monic_facts (o := o) F.wf F.ne
 have sm: ∀ e ∈ monicP o p, SM e.1 := fun e he => by
  obtain ⟨x, hx, e1⟩ := m4 e he
  rw [← e1]; exact F.sm x hx
 have ss: ∀ e ∈ monicP o p, sz e.2 ≤ 1 := fun e he => m5 3 F.wt e he
 refine ⟨m1, by rw [m2]; exact F.len, okP_of m1.wf (fun e he => by have := ss e he; exact Nat.le_trans ‹_› (by decide)) (fun e he => by have := sm e he; unfold SM at this; lia) (by rw [m2]; have := F.len; exact Nat.le_trans ‹_› (by decide)), sm, ss⟩
section
variable {o: Od} {G: List Po} {R: List Mo} {cost: Mo → Nat} {W C: Nat} {f g: Po}
inductive SpR (o: Od) (f g: Po) (G: List Po) (R: List Mo) (C: Nat): Prop
 | mk (fin: DSt) (r1: SpD o G f g fin) (r2: OkP fin.rest) (r3: ∀ e ∈ fin.rest, e.1 ∈ R ∧ ∀ g ∈ G, Monic o g → mdiv (lM o g) e.1 = false) (r4: fin.rest.length ≤ 2) (r5: wt fin.rest ≤ C)
inductive NewF (o: Od) (r q: Po) (C: Nat): Prop
 | mk (n1: Monic o q) (n2: q.length ≤ 2) (n3: OkP q) (n4: ∀ e ∈ q, ∃ x ∈ r, x.1 = e.1) (n5: ∀ e ∈ q, sz e.2 ≤ C - 2)
theorem sp_of_rg (rg: Rg o G R cost) (hf: Monic o f) (hg: Monic o g) (mf: f ∈ G) (mg: g ∈ G) (wf: ∀ e ∈ f, sz e.2 ≤ W) (wg: ∀ e ∈ g, sz e.2 ≤ W)
  (hC: 2 * W + 2 + (R.map cost).sum ≤ C) (hC2: C ≤ 66000000) (hR: R.length ≤ 50000) (hJ: (jn o f g).1 ≤ 200 ∧ (jn o f g).2 ≤ 200)
  (tf: ∀ x ∈ f, lt o x.1 (lM o f) → mP x.1 (mM (jn o f g) (lM o f)) ∈ R) (tg: ∀ x ∈ g, lt o x.1 (lM o g) → mP x.1 (mM (jn o f g) (lM o g)) ∈ R) :
  SpR o f g G R C := by
 obtain ⟨uu, lf⟩ := rg.okp f mf
 obtain ⟨uu, lg⟩ := rg.okp g mg
 obtain ⟨s1, s2, s3, s4, s5⟩ := spm_facts hf hg lf lg wf wg
 have hW: W ≤ 66000000 := by lia
 have hsR: ∀ e ∈ spm o f g, e.1 ∈ R := fun e he => by
  rcases s5 e he with ⟨x, hx, h1, h2⟩ | ⟨x, hx, h1, h2⟩
  ·rw [h2]; exact tf x hx h1
  ·rw [h2]; exact tg x hx h1
 have okshift: ∀ {f: Po}, Monic o f → f.length ≤ 2 → (∀ e ∈ f, sz e.2 ≤ W) → (mdiv (lM o f) (jn o f g) = true ∨ True) → ∀ {J: Mo}, J.1 ≤ 200 ∧ J.2 ≤ 200 → mdiv (lM o f) J = true → (∀ x ∈ f, lt o x.1 (lM o f) → mP x.1 (mM J (lM o f)) ∈ R) → OkP (shiftP f (mM J (lM o f)) 1) := by
  intro f hf lf wf uu J hJ hd tf
  refine okP_of (shift_one_wf hf.wf _) (fun e he => ?_) (fun e he => ?_) (by rw [shift_one, List.length_map]; exact Nat.le_trans ‹_› (by decide))
  all_goals
   rw [shift_one] at he
   obtain ⟨x, hx, rfl⟩ := List.mem_map.mp he
  ·have := wf x hx; simp only; lia
  ·rcases lead_lt hf.wf.1 hf.lead hx with q | q
   ·rw [q]; simp only; rw [mplus_minus hd]; exact hJ
   ·exact rg.box _ (tf x hx q)
 obtain ⟨fin, T, d1, d2, d3⟩ := div_ok (C := C) rg (okP_of s1 (fun e he => by have := wt_mem he; lia) (fun e he => rg.box _ (hsR e he)) (by exact Nat.le_trans ‹_› (by decide))) hsR (by lia) hC2 (by exact Nat.le_trans ‹_› (by decide)) hR
 have hwt := d3.wgt
 have hlen := d3.len
 rw [d2] at hwt hlen
 rw [wt_nil] at hwt
 simp only [List.length_nil, Nat.zero_add] at hlen
 refine ⟨fin, ⟨okshift hf lf wf (.inr trivial) hJ (jl o f g) tf, okshift hg lg wg (.inr trivial) hJ (jr o f g) tg, d1, d2, R, cost, C, T, d3⟩, d3.okr rg hC2 (by exact Nat.le_trans ‹_› (by decide)), fun e he => ⟨(d3.rR e he).1, fun g hg hm => ?_⟩, by exact Nat.le_trans ‹_› ‹_›, by lia⟩
 exact fst_none (d3.rR e he).2 (l := (lM o g, 1)) (by rw [← hm.lead]; exact List.mem_map_of_mem hg)
theorem mem_of_rg (rg: Rg o G R cost) {p: Po} (h: StartF p) (hp: ∀ e ∈ p, e.1 ∈ R) (hC: 3 + (R.map cost).sum ≤ C) (hC2: C ≤ 66000000) (hR: R.length ≤ 50000): ∃ fin, DivS o p G fin := by
 obtain ⟨fin, T, d1, d2, d3⟩ := div_ok (C := C) rg h.okp hp (by have := h.wt; lia) hC2 (by have := h.len; exact Nat.le_trans ‹_› (by decide)) hR
 exact ⟨fin, d1, d2, R, cost, C, T, d3⟩
theorem new_facts {r: Po} (hr: OkP r) (hne: r ≠ []) (hl: r.length ≤ 2) (hw: wt r ≤ C) (hC2: C ≤ 66000000): NewF o r (monicP o r) C := by
 obtain ⟨m1, m2, uu, m4, m5⟩ := monic_facts (o := o) hr.wf hne
 have h5 := m5 C hw
 refine ⟨m1, by lia, okP_of m1.wf (fun e he => by have := h5 e he; lia) (fun e he => ?_) (by lia), m4, h5⟩
 obtain ⟨x, hx, e1⟩ := m4 e he
 rw [← e1]; exact hr.box x hx
theorem fst_light {m: Mo} {i n: Nat} (h: fstDiv m (G.map (lead o)) = some i) {j: Nat} {g: Po} (hj: j < n) (hg: G[j]? = some g) (hm: Monic o g) (hd: mdiv (lM o g) m = true): i < n := by
 obtain ⟨h1, h2, h3⟩ := List.findIdx?_eq_some_iff_getElem.mp h
 rcases Nat.lt_or_ge i n with q | q
 ·exact q
 ·exfalso
  have := h3 j (by exact Nat.lt_of_lt_of_le ‹_› ‹_›)
  apply this
  have e: (G.map (lead o))[j]? = some (some (lM o g, 1)) := by rw [List.getElem?_map, hg]; exact congrArg some hm.lead
  have hj2: j < (G.map (lead o)).length := by lia
  have e2 := List.getElem?_eq_getElem hj2
  rw [e] at e2
  rw [← Option.some.inj e2]
  exact hd
theorem sum_cost (P: Mo → Bool) (W: Nat) (hW: 1 ≤ W): ∀ R: List Mo, (R.map fun m => if P m then 1 else W).sum = R.length + (R.filter fun m => !P m).length * (W - 1)
 | [] => by simp
 | m :: R => by
  have ih := sum_cost P W hW R
  rw [List.map_cons, List.sum_cons, ih, List.length_cons]
  by_cases h: P m = true
  ·simp [h]; lia
  ·simp only [h, List.filter_cons, Bool.not_false, if_true, List.length_cons]
   simp
   have: ((R.filter fun m => !P m).length + 1) * (W - 1) = (R.filter fun m => !P m).length * (W - 1) + (W - 1) := Nat.succ_mul _ _
   lia
end
end Mine.Internal.Pl
end
section
set_option maxRecDepth 10000
namespace Mine.Internal.Pl
noncomputable def regG (D: Nat): List Mo := (List.range (D + 1)).flatMap fun x => (List.range (D + 1 - x)).map fun y => (x, y)
theorem mem_regG {D: Nat} {m: Mo}: m ∈ regG D ↔ m.1 + m.2 ≤ D := by
 unfold regG
 rw [List.mem_flatMap]
 constructor
 ·rintro ⟨x, hx, h⟩
  obtain ⟨y, hy, rfl⟩ := List.mem_map.mp h
  rw [List.mem_range] at hx hy
  simp only; lia
 ·intro h
  exact ⟨m.1, List.mem_range.mpr (by lia), List.mem_map.mpr ⟨m.2, List.mem_range.mpr (by lia), rfl⟩⟩
noncomputable def DG: Nat → Nat
 | 0 => 4
 | 1 => 6
 | 2 => 9
 | 3 => 14
 | _ => 23
noncomputable def WG: Nat → Nat
 | 0 => 1
 | 1 => 17
 | 2 => 398
 | 3 => 12761
 | _ => 599842
theorem heavy_count: ∀ k < 5, ∀ a < 3, ∀ b < 3, a + b ≤ 3 → ((regG (DG k)).filter fun m => !mdiv (a, b) m).length ≤ 3 * (DG k + 1) := by decide +kernel
theorem reg_count: ∀ k < 5, (regG (DG k)).length ≤ 300 := by decide +kernel
theorem cost_step: ∀ k < 4, 2 * WG k + 2 + ((regG (DG k)).length + 3 * (DG k + 1) * (WG k - 1)) ≤ WG (k + 1) + 2 := by decide +kernel
theorem cost_fin: 2 * WG 4 + 2 + ((regG (DG 4)).length + 3 * (DG 4 + 1) * (WG 4 - 1)) ≤ 66000000 := by decide +kernel
theorem WG_mono: ∀ k < 5, ∀ j ≤ k, WG j ≤ WG k := by decide
theorem WG_small: ∀ k < 5, WG k + 2 ≤ 66000000 ∧ 1 ≤ WG k := by decide
theorem DG_pair: ∀ k < 4, ∀ j < k, ∀ i < j, DG j + DG i ≤ DG k + 1 := by decide
theorem DG_one: ∀ k < 4, ∀ j < k, DG j + 3 ≤ DG k + 1 := by decide
theorem DG_fin: ∀ j < 4, ∀ i < j, DG j + DG i ≤ 23 := by decide
theorem DG_fin1: ∀ j < 4, DG j ≤ 14 := by decide
theorem DG_box: ∀ k < 5, DG k ≤ 23 ∧ 4 ≤ DG k := by decide
theorem deg_lt {o: Od} (ho: o ≠ .lex) {a b: Mo} (h: lt o a b): a.1 + a.2 ≤ b.1 + b.2 := by
 cases o with
 | lex => exact absurd rfl ho
 | grlex => simp only [lt, ltM_gr] at h; lia
 | grevlex => simp only [lt, ltM_grev] at h; lia
structure IG (o: Od) (n k: Nat) (G: List Po): Prop where
 len: G.length = n + k
 el: ∀ i g, G[i]? = some g → Monic o g ∧ g.length ≤ 2 ∧ OkP g ∧ ∀ e ∈ g, sz e.2 ≤ WG (i + 1 - n) ∧ (i < n → SM e.1) ∧ (n ≤ i → e.1.1 + e.1.2 ≤ DG (i - n))
section
variable {o: Od} {n k: Nat} {G: List Po}
theorem rgG (ho: o ≠ .lex) {D W: Nat} (hD: D ≤ 200) (hW: 1 ≤ W) (hE: ∀ g ∈ G, Monic o g ∧ g.length ≤ 2 ∧ OkP g ∧ ∀ e ∈ g, sz e.2 ≤ W) {g0: Po} (h0: G[0]? = some g0) (hs: ∀ e ∈ g0, sz e.2 ≤ 1) :
  Rg o G (regG D) (fun m => if mdiv (lM o g0) m then 1 else W) := by
 refine ⟨fun g hg => ⟨(hE g hg).2.2.1, (hE g hg).2.1⟩, fun g hg l hl => ?_, fun m hm => by have := mem_regG.mp hm; lia, fun m i g l hm hi hg hl e he hne => ?_⟩
 ·have := (hE g hg).1.lead
  rw [hl] at this; cases this
  simp only [sz_one]; lia
 ·have mg := List.mem_of_getElem? hg
  obtain ⟨mon, lg, okg, hsz⟩ := hE g mg
  have hml := mon.lead
  rw [hl] at hml; cases hml
  have hd: mdiv (lM o g) m = true := by
   obtain ⟨h1, h2, uu⟩ := List.findIdx?_eq_some_iff_getElem.mp hi
   rw [List.getElem_map] at h2
   have e1: G[i]'(by simpa using h1) = g := by
    have := List.getElem?_eq_getElem (l := G) (i := i) (by simpa using h1)
    rw [hg] at this; exact (Option.some.inj this).symm
   rw [e1, hl] at h2; exact h2
  have hlt := (lead_lt okg.wf.1 hl he).resolve_left hne
  refine ⟨?_,?_⟩
  ·rw [mem_regG] at hm ⊢
   have := deg_lt ho hlt
   rw [mdiv_iff] at hd
   simp only [mP, mM] at *
   lia
  ·simp only [sz_one]
   split
   ·rename_i hq
    have hi0 := fst_light hi (n := 1) (by lia) h0 (hE g0 (List.mem_of_getElem? h0)).1 hq
    have: i = 0 := by lia
    subst this
    rw [h0] at hg; cases hg
    have := hs e he; lia
   ·have := hsz e he; lia
theorem costG {W d: Nat} (hd: d < 5) (hW: 1 ≤ W) {l: Mo} (hl: SM l): ((regG (DG d)).map fun m => if mdiv l m then 1 else W).sum ≤ (regG (DG d)).length + 3 * (DG d + 1) * (W - 1) := by
 rw [sum_cost _ W hW]
 have := heavy_count d hd l.1 (by unfold SM at hl; lia) l.2 (by unfold SM at hl; lia) (by unfold SM at hl; lia)
 exact Nat.add_le_add_left (Nat.mul_le_mul_right _ this) _
theorem jn_deg (f g: Po): (jn o f g).1 + (jn o f g).2 ≤ (lM o f).1 + (lM o f).2 + ((lM o g).1 + (lM o g).2) ∧ (apart (lM o f) (lM o g) = false → (jn o f g).1 + (jn o f g).2 + 1 ≤ (lM o f).1 + (lM o f).2 + ((lM o g).1 + (lM o g).2)) := by
 refine ⟨by simp only [jn, mjoin]; lia, fun h => ?_⟩
 have: ¬ (min (lM o f).1 (lM o g).1 + min (lM o f).2 (lM o g).2 = 0) := fun q => by rw [apart_iff.mpr q] at h; cases h
 simp only [jn, mjoin]; lia
theorem tail_reg (ho: o ≠ .lex) {f: Po} {J: Mo} {D: Nat} (hJ: J.1 + J.2 ≤ D) (hd: mdiv (lM o f) J = true): ∀ x ∈ f, lt o x.1 (lM o f) → mP x.1 (mM J (lM o f)) ∈ regG D := fun x uu hlt => by
 have := deg_lt ho hlt
 rw [mem_regG]
 rw [mdiv_iff] at hd
 simp only [mP, mM]; lia
theorem IG.all (h: IG o n k G) {W: Nat} (hk: k < 5) (hW: WG k ≤ W): ∀ g ∈ G, Monic o g ∧ g.length ≤ 2 ∧ OkP g ∧ ∀ e ∈ g, sz e.2 ≤ W := fun g hg => by
 obtain ⟨i, hi⟩ := List.getElem?_of_mem hg
 obtain ⟨h1, h2, h3, h4⟩ := h.el i g hi
 refine ⟨h1, h2, h3, fun e he => ?_⟩
 have := (List.getElem?_eq_some_iff.mp hi).1
 have h5 := h.len
 have := WG_mono k hk (i + 1 - n) (by lia)
 have := (h4 e he).1
 lia
theorem IG.zero (h: IG o n k G) (hn: 0 < n): ∃ g0, G[0]? = some g0 ∧ (∀ e ∈ g0, sz e.2 ≤ 1) ∧ SM (lM o g0) := by
 have h5 := h.len
 have e := List.getElem?_eq_getElem (l := G) (i := 0) (by lia)
 obtain ⟨h1, h2, h3, h4⟩ := h.el 0 _ e
 refine ⟨_, e, fun x hx => ?_, (h4 _ h1.mem).2.1 hn⟩
 have := (h4 x hx).1
 rw [show 0 + 1 - n = 0 by lia] at this; exact this
theorem IG.lead_deg (h: IG o n k G) {i: Nat} {g: Po} (hg: G[i]? = some g): (i < n → SM (lM o g)) ∧ (n ≤ i → (lM o g).1 + (lM o g).2 ≤ DG (i - n)) := by
 obtain ⟨h1, h2, h3, h4⟩ := h.el i g hg
 exact (h4 _ h1.mem).2
noncomputable def famG (ho: o ≠ .lex) {ps: List Po} (h0: 0 < ps.length) (h3: ps.length ≤ 10) (hps: ∀ p ∈ ps, StartP p): Fam o ps where
 I k G := IG o ps.length k G
 start := by
  refine ⟨by simp, fun i g hg => ?_⟩
  obtain ⟨p, hp, rfl⟩ := List.mem_map.mp (List.mem_of_getElem? hg)
  have S := start_monic o (hps p hp)
  have hi := (List.getElem?_eq_some_iff.mp hg).1
  rw [List.length_map] at hi
  refine ⟨S.mon, S.len, S.okp, fun e he => ⟨?_, fun uu => S.sm e he, fun q => by lia⟩⟩
  rw [show i + 1 - ps.length = 0 by lia]
  exact S.ss e he
 rules k G h g hg := by
  obtain ⟨i, hi⟩ := List.getElem?_of_mem hg
  obtain ⟨h1, h2, h3, uu⟩ := h.el i g hi
  exact ⟨h1, h2, h3⟩
 len k G h := by have := h.len; lia
 sp k G h hk i j f g hij hi hj hap := by
  have hlen := h.len
  have hk4: k < 4 := Nat.succ_le_succ hk
  have hk5: k < 5 := Nat.lt_succ_of_lt hk4
  have hjl := (List.getElem?_eq_some_iff.mp hj).1
  obtain ⟨w1, w2⟩ := WG_small k hk5
  obtain ⟨w3, uu⟩ := WG_small (k + 1) (Nat.succ_lt_succ hk4)
  obtain ⟨d1, d2⟩ := DG_box k hk5
  obtain ⟨g0, z1, z2, z3⟩ := h.zero h0
  have all := h.all (W := WG k) hk5 (Nat.le_refl _)
  have rg := rgG ho (D := DG k) (Nat.le_trans d1 (by decide)) w2 all z1 z2
  have mf := List.mem_of_getElem? hi
  have mg := List.mem_of_getElem? hj
  obtain ⟨f1, uu, uu, f4⟩ := all f mf
  obtain ⟨g1, uu, uu, g4⟩ := all g mg
  have hJ: (jn o f g).1 + (jn o f g).2 ≤ DG k := by
   obtain ⟨a1, a2⟩ := h.lead_deg hi
   obtain ⟨b1, b2⟩ := h.lead_deg hj
   have hd := (jn_deg f g).2 hap
   by_cases q: j < ps.length
   ·have a := a1 (by lia)
    have b := b1 q
    have: (jn o f g).1 + (jn o f g).2 ≤ 4 := a.join b
    lia
   ·have b := b2 (by lia)
    by_cases q2: i < ps.length
    ·have a := a1 q2
     unfold SM at a
     have := DG_one k hk4 (j - ps.length) (by lia)
     lia
    ·have a := a2 (by lia)
     have := DG_pair k hk4 (j - ps.length) (by lia) (i - ps.length) (by lia)
     lia
  have hcost := costG (d := k) hk5 w2 z3
  have hstep := cost_step k hk4
  have hR := reg_count k hk5
  obtain ⟨fin, r1, r2, r3, r4, r5⟩ := sp_of_rg (C := WG (k + 1) + 2) rg f1 g1 mf mg f4 g4 (by lia) w3 (by lia) (by lia)
   (tail_reg ho hJ (jl o f g)) (tail_reg ho hJ (jr o f g))
  refine ⟨fin, r1, r2, fun hne => ?_⟩
  obtain ⟨n1, n2, n3, n4, n5⟩ := new_facts (o := o) r2 hne r4 r5 w3
  refine ⟨by rw [List.length_append, List.length_singleton]; lia, fun i' g' hg' => ?_⟩
  by_cases q: i' < G.length
  ·rw [List.getElem?_append_left q] at hg'
   exact h.el i' g' hg'
  ·have hl := (List.getElem?_eq_some_iff.mp hg').1
   rw [List.length_append, List.length_singleton] at hl
   have e: i' = G.length := by lia
   subst e
   rw [List.getElem?_append_right (by lia), Nat.sub_self] at hg'
   cases hg'
   refine ⟨n1, n2, n3, fun e he => ⟨?_, fun q => by lia, fun uu => ?_⟩⟩
   ·have := n5 e he
    rw [show G.length + 1 - ps.length = k + 1 by lia]; lia
   ·obtain ⟨x, hx, e1⟩ := n4 e he
    rw [show G.length - ps.length = k by lia, ← e1]
    exact mem_regG.mp (r3 x hx).1
 fin k G h hk i j f g hij hi hj := by
  have hlen := h.len
  have hil := (List.getElem?_eq_some_iff.mp hi).1
  have hwk := WG_mono 4 (by decide) k hk
  obtain ⟨g0, z1, z2, z3⟩ := h.zero h0
  have all := h.all (W := WG 4) (Nat.lt_succ_of_le hk) hwk
  have w2: 1 ≤ WG 4 := by decide
  have rg := rgG ho (D := DG 4) (by decide) w2 all z1 z2
  have mf := List.mem_of_getElem? hi
  have mg := List.mem_of_getElem? hj
  obtain ⟨f1, uu, uu, f4⟩ := all f mf
  obtain ⟨g1, uu, uu, g4⟩ := all g mg
  have hJ: (jn o f g).1 + (jn o f g).2 ≤ DG 4 := by
   obtain ⟨a1, a2⟩ := h.lead_deg hi
   obtain ⟨b1, b2⟩ := h.lead_deg hj
   have hd := (jn_deg (o := o) f g).1
   have e4: DG 4 = 23 := rfl
   by_cases q: i < ps.length
   ·have a := a1 q
    have b := b1 (by lia)
    unfold SM at a b
    lia
   ·have a := a2 (by lia)
    have d1 := DG_fin1 (i - ps.length) (by lia)
    by_cases q2: j < ps.length
    ·have b := b1 q2
     unfold SM at b
     lia
    ·have b := b2 (by lia)
     have := DG_fin (i - ps.length) (by lia) (j - ps.length) (by lia)
     lia
  have hcost := costG (d := 4) (by decide) w2 z3
  have hfin := cost_fin
  have hR := reg_count 4 (by decide)
  have e4: DG 4 = 23 := rfl
  obtain ⟨fin, r1, uu, uu, uu, uu⟩ := sp_of_rg (C := 66000000) rg f1 g1 mf mg f4 g4 (by lia) (by lia) (by lia) (by lia)
   (tail_reg ho hJ (jl o f g)) (tail_reg ho hJ (jr o f g))
  exact ⟨fin, r1⟩
 mem k G h hk p hp := by
  have hwk := WG_mono 4 (by decide) k hk
  obtain ⟨g0, z1, z2, z3⟩ := h.zero h0
  have all := h.all (W := WG 4) (Nat.lt_succ_of_le hk) hwk
  have w2: 1 ≤ WG 4 := by decide
  have rg := rgG ho (D := DG 4) (by decide) w2 all z1 z2
  have S := start_facts (hps p hp)
  have hcost := costG (d := 4) (by decide) w2 z3
  have hfin := cost_fin
  have hR := reg_count 4 (by decide)
  refine mem_of_rg (C := 66000000) rg S (fun e he => mem_regG.mpr ?_) (by lia) (by lia) (by lia)
  have := S.sm e he
  unfold SM at this
  have e4: DG 4 = 23 := rfl
  lia
end
end Mine.Internal.Pl
end
section
namespace Mine.Internal.Pl
noncomputable def hh (m: Mo): Nat := 3 * m.1 + m.2
noncomputable def regL1 (H: Nat): List Mo := (List.range 3).flatMap fun x => (List.range (H + 1 - 3 * x)).map fun y => (x, y)
noncomputable def regL0 (Y: Nat): List Mo := (List.range 3).flatMap fun x => (List.range ((3 - x) * Y + 1)).map fun y => (x, y)
noncomputable def regA: List Mo := (List.range 2).flatMap fun x => (List.range 4).map fun y => (x, y)
theorem mem_box {a: Nat} {b: Nat → Nat} {m: Mo}: m ∈ ((List.range a).flatMap fun x => (List.range (b x)).map fun y => (x, y)) ↔ m.1 < a ∧ m.2 < b m.1 := by
 rw [List.mem_flatMap]
 constructor
 ·rintro ⟨x, hx, h⟩
  obtain ⟨y, hy, rfl⟩ := List.mem_map.mp h
  exact ⟨List.mem_range.mp hx, List.mem_range.mp hy⟩
 ·intro h
  exact ⟨m.1, List.mem_range.mpr h.1, List.mem_map.mpr ⟨m.2, List.mem_range.mpr h.2, rfl⟩⟩
theorem mv1 {x l J: Mo} (d: l.1 ≤ J.1 ∧ l.2 ≤ J.2) (hx: x.1 ≤ l.1) (h: hh x ≤ hh l): (mP x (mM J l)).1 ≤ J.1 ∧ hh (mP x (mM J l)) ≤ hh J := by
 obtain ⟨j1, j2⟩ := J; obtain ⟨d1, d2⟩ := d
 simp only at d1 d2
 obtain ⟨p, rfl⟩ := Nat.exists_eq_add_of_le d1
 obtain ⟨q, rfl⟩ := Nat.exists_eq_add_of_le d2
 unfold hh at h ⊢
 simp only [mP, mM]
 rw [Nat.add_sub_cancel_left, Nat.add_sub_cancel_left]
 refine ⟨Nat.add_le_add_right hx _,?_⟩
 rw [Nat.mul_add, Nat.mul_add, Nat.add_add_add_comm, Nat.add_add_add_comm (3 * l.1)]
 exact Nat.add_le_add_right h _
theorem lexle {a b: Nat} {P: Prop} (h: a < b ∨ a = b ∧ P): a ≤ b := h.elim Nat.le_of_lt fun q => Nat.le_of_eq q.1
theorem boxH {x y H: Nat}: (x < 3 ∧ y < H + 1 - 3 * x) ↔ (x ≤ 2 ∧ 3 * x + y ≤ H) := ⟨fun h => ⟨Nat.le_of_lt_succ h.1, by have := h.2; lia⟩, fun h => ⟨Nat.lt_succ_of_le h.1, by have := h.2; lia⟩⟩
theorem mem_regL1 {H: Nat} {m: Mo}: m ∈ regL1 H ↔ m.1 ≤ 2 ∧ hh m ≤ H := by
 unfold regL1 hh
 rw [mem_box (b := fun x => H + 1 - 3 * x)]; exact boxH
theorem mem_regL0 {Y: Nat} {m: Mo}: m ∈ regL0 Y ↔ m.1 ≤ 2 ∧ m.2 ≤ (3 - m.1) * Y := by
 unfold regL0
 rw [mem_box (b := fun x => (3 - x) * Y + 1)]; lia
theorem mem_regA {m: Mo}: m ∈ regA ↔ m.1 ≤ 1 ∧ m.2 ≤ 3 := by
 unfold regA
 rw [mem_box (b := fun uu => 4)]; lia
noncomputable def costL1 (W: Nat) (m: Mo): Nat := if m.1 = 0 then 0 else if m.2 ≤ 2 then W else 2
noncomputable def costL0 (W: Nat) (m: Mo): Nat := if m.1 = 0 ∨ m.2 ≤ 2 then W else 2
noncomputable def YB (s: Nat): Nat := 3 + 6 * s
noncomputable def WA: Nat → Nat
 | 0 => 2
 | k + 1 => 8 * WA k + 2 * (2 * (9 + 6 * k) - 13)
noncomputable def WB (s: Nat): Nat → Nat
 | 0 => 2
 | k + 1 => if k + 1 ≤ s then WA (k + 1) else (3 * YB s + 9) * WB s k + 2 * (6 * YB s + 3)
theorem WA_step: ∀ k < 5, 2 * WA k + 2 + ((regL1 (9 + 6 * k)).map (costL1 (WA k))).sum ≤ WA (k + 1) + 2 ∧ WA (k + 1) + 2 ≤ 66000000 ∧ 2 ≤ WA k ∧ WA k ≤ WA (k + 1) ∧ (regL1 (9 + 6 * k)).length ≤ 5000 := by decide +kernel
theorem WB_step: ∀ s < 5, ∀ k < 5, s ≤ k → 2 * WB s k + 2 + ((regL0 (YB s)).map (costL0 (WB s k))).sum ≤ WB s (k + 1) + 2 ∧ WB s (k + 1) + 2 ≤ 66000000 ∧ 2 ≤ WB s k ∧ WB s k ≤ WB s (k + 1) ∧ (regL0 (YB s)).length ≤ 5000 := by decide +kernel
theorem WB_diag: ∀ s < 5, WB s s = WA s := by decide +kernel
theorem snoc_get {α: Type} {G: List α} {q g: α} {i: Nat} (h: (G ++ [q])[i]? = some g): (i < G.length ∧ G[i]? = some g) ∨ (i = G.length ∧ g = q) := by
 by_cases c: i < G.length
 ·rw [List.getElem?_append_left c] at h; exact .inl ⟨c, h⟩
 ·have hl := (List.getElem?_eq_some_iff.mp h).1
  rw [List.length_append, List.length_singleton] at hl
  have e: i = G.length := by lia
  subst e
  rw [List.getElem?_append_right (by exact Nat.le_refl _), Nat.sub_self] at h
  cases h; exact .inr ⟨rfl, rfl⟩
theorem lex_lt {a b: Mo}: lt .lex a b ↔ (a.1 < b.1 ∨ (a.1 = b.1 ∧ a.2 < b.2)) := ltM_lex a b
structure El (g: Po) (W: Nat): Prop where
 mon: Monic .lex g
 len: g.length ≤ 2
 okp: OkP g
 sz: ∀ e ∈ g, sz e.2 ≤ W
 x2: ∀ e ∈ g, e.1.1 ≤ 2
theorem El.mono {g: Po} {W W': Nat} (h: El g W) (hw: W ≤ W'): El g W' := ⟨h.mon, h.len, h.okp, fun e he => Nat.le_trans (h.sz e he) hw, h.x2⟩
structure Lt (g: Po): Prop where
 y3: ∀ e ∈ g, e.1.2 ≤ 3
 sz2: ∀ e ∈ g, sz e.2 ≤ 2
 hl: ∀ e ∈ g, hh e.1 ≤ hh (lM .lex g)
noncomputable def Ell (N: Nat) (G: List Po): Prop := ∃ i g, i < N ∧ G[i]? = some g ∧ (lM .lex g).1 ≤ 1 ∧ (lM .lex g).2 ≤ 3
noncomputable def All2 (n k N: Nat) (G: List Po): Prop := k = 0 ∧ N = n ∧ ∀ g ∈ G, (lM .lex g).1 = 2 ∧ (lM .lex g).2 ≤ 1 ∧ ∀ e ∈ g, sz e.2 ≤ 1 ∧ (lt .lex e.1 (lM .lex g) → e.1.1 ≤ 1 ∧ e.1.2 ≤ 2)
structure L1 (n k N: Nat) (G: List Po): Prop where
 len: G.length = n + k
 nl: N ≤ G.length
 el: ∀ g ∈ G, El g (WA k)
 light: ∀ i g, i < N → G[i]? = some g → Lt g
 heavy: ∀ i g, N ≤ i → G[i]? = some g → ∀ e ∈ g, hh e.1 ≤ 3 + 6 * k
 ld: ∀ g ∈ G, 1 ≤ (lM .lex g).1 ∧ (lM .lex g).2 ≤ 3
 ell: All2 n k N G ∨ Ell N G
structure L0 (n s k N: Nat) (G: List Po): Prop where
 len: G.length = n + k
 nl: N ≤ G.length
 el: ∀ g ∈ G, El g (WB s k)
 light: ∀ i g, i < N → G[i]? = some g → ∀ e ∈ g, sz e.2 ≤ 2
 yy: ∀ g ∈ G, ∀ e ∈ g, e.1.2 ≤ YB s
 ax: ∃ g ∈ G, (lM .lex g).1 = 0
 ell: Ell N G
section
variable {n s k N: Nat} {G: List Po}
theorem fst_get {o: Od} {m: Mo} {i: Nat} {g: Po} {l: Mo × Rat} (hi: fstDiv m (G.map (lead o)) = some i) (hg: G[i]? = some g) (hl: lead o g = some l): mdiv l.1 m = true := by
 obtain ⟨h1, h2, uu⟩ := List.findIdx?_eq_some_iff_getElem.mp hi
 rw [List.getElem_map] at h2
 have e1: G[i]'(by simpa using h1) = g := by
  have := List.getElem?_eq_getElem (l := G) (i := i) (by simpa using h1)
  rw [hg] at this; exact (Option.some.inj this).symm
 rw [e1, hl] at h2; exact h2
theorem El.small {g: Po} {W: Nat} (h: El g W) {l: Mo × Rat} (hl: lead .lex g = some l): l = (lM .lex g, 1) := by
 have := h.mon.lead
 rw [hl] at this; exact Option.some.inj this
theorem rgL1 (h: L1 n k N G) (hk: k < 5): Rg .lex G (regL1 (9 + 6 * k)) (costL1 (WA k)) := by
 obtain ⟨uu, uu, w3, uu⟩ := WA_step k hk
 refine ⟨fun g hg => ⟨(h.el g hg).okp, (h.el g hg).len⟩, fun g hg l hl => ?_, fun m hm => by have := mem_regL1.mp hm; unfold hh at this; lia, fun m i g l hm hi hg hl e he hne => ?_⟩
 ·rw [(h.el g hg).small hl]; simp only [sz_one]; exact Nat.zero_le _
 ·have mg := List.mem_of_getElem? hg
  have E := h.el g mg
  have el := E.small hl
  subst el
  have hd := fst_get hi hg hl
  have hlt := (lead_lt E.okp.wf.1 hl he).resolve_left hne
  obtain ⟨d1, d2⟩ := h.ld g mg
  rw [mdiv_iff] at hd
  rw [mem_regL1] at hm ⊢
  rw [lex_lt] at hlt
  simp only at hd hlt
  rw [sz_one]
  unfold costL1
  by_cases q: i < N
  ·have L := h.light i g q hg
   have h1 := L.hl e he
   have h2 := L.sz2 e he
   refine ⟨?_,?_⟩
   ·obtain ⟨a, b⟩ := mv1 hd (lexle hlt) h1
    exact ⟨Nat.le_trans a hm.1, Nat.le_trans b hm.2⟩
   ·rw [if_neg (by lia)]; split <;> lia
  ·have h1 := h.heavy i g (by exact Nat.not_lt.mp ‹_›) hg e he
   have h2 := E.sz e he
   have hm2: m.2 ≤ 2 := by
    rcases h.ell with ⟨a1, a2, uu⟩ | ⟨j, gj, j1, j2, j3, j4⟩
    ·have := (List.getElem?_eq_some_iff.mp hg).1
     have := h.len
     lia
    ·cases hq: mdiv (lM .lex gj) m with
     | true => exact absurd (fst_light hi j1 j2 (h.el gj (List.mem_of_getElem? j2)).mon hq) q
     | false =>
      have: ¬ ((lM .lex gj).1 ≤ m.1 ∧ (lM .lex gj).2 ≤ m.2) := fun c => by rw [(mdiv_iff _ _).mpr c] at hq; cases hq
      lia
   refine ⟨?_,?_⟩
   ·unfold hh at *; simp only [mP, mM]; lia
   ·rw [if_neg (by lia), if_pos hm2]; exact h2
theorem rgL0 (h: L0 n s k N G) (hs: s < 5) (hk: k < 5) (hsk: s ≤ k): Rg .lex G (regL0 (YB s)) (costL0 (WB s k)) := by
 obtain ⟨uu, uu, w3, uu⟩ := WB_step s hs k hk hsk
 refine ⟨fun g hg => ⟨(h.el g hg).okp, (h.el g hg).len⟩, fun g hg l hl => ?_, fun m hm => ?_, fun m i g l hm hi hg hl e he hne => ?_⟩
 ·rw [(h.el g hg).small hl]; simp only [sz_one]; exact Nat.zero_le _
 ·obtain ⟨a, b⟩ := mem_regL0.mp hm
  have: (3 - m.1) * YB s ≤ 3 * YB s := Nat.mul_le_mul_right _ (by lia)
  unfold YB at *; lia
 ·have mg := List.mem_of_getElem? hg
  have E := h.el g mg
  have el := E.small hl
  subst el
  have hd := fst_get hi hg hl
  have hlt := (lead_lt E.okp.wf.1 hl he).resolve_left hne
  have hy := h.yy g mg e he
  rw [mdiv_iff] at hd
  rw [mem_regL0] at hm ⊢
  rw [lex_lt] at hlt
  simp only at hd hlt
  rw [sz_one]
  unfold costL0
  refine ⟨?_,?_⟩
  ·obtain ⟨m1, m2⟩ := hm
   simp only [mP, mM]
   refine ⟨by lia,?_⟩
   rcases hlt with c | ⟨c1, c2⟩
   ·have e1: (3 - (e.1.1 + (m.1 - (lM .lex g).1))) * YB s ≥ (3 - m.1 + 1) * YB s := Nat.mul_le_mul_right _ (by lia)
    rw [Nat.succ_mul] at e1
    lia
   ·have e1: e.1.1 + (m.1 - (lM .lex g).1) = m.1 := by lia
    rw [e1]; lia
  ·by_cases q: i < N
   ·have h2 := h.light i g q hg e he
    split <;> lia
   ·have h2 := E.sz e he
    have hm2: m.1 = 0 ∨ m.2 ≤ 2 := by
     obtain ⟨j, gj, j1, j2, j3, j4⟩ := h.ell
     cases hq: mdiv (lM .lex gj) m with
     | true => exact absurd (fst_light hi j1 j2 (h.el gj (List.mem_of_getElem? j2)).mon hq) q
     | false =>
      have: ¬ ((lM .lex gj).1 ≤ m.1 ∧ (lM .lex gj).2 ≤ m.2) := fun c => by rw [(mdiv_iff _ _).mpr c] at hq; cases hq
      lia
    rw [if_pos hm2]; exact h2
theorem rgA (h: L1 n k N G) (ha: All2 n k N G): Rg .lex G regA (fun uu => 0) := by
 refine ⟨fun g hg => ⟨(h.el g hg).okp, (h.el g hg).len⟩, fun g hg l hl => ?_, fun m hm => by have := mem_regA.mp hm; lia, fun m i g l hm hi hg hl e he hne => ?_⟩
 ·rw [(h.el g hg).small hl]; simp only [sz_one]; exact Nat.zero_le _
 ·exfalso
  have mg := List.mem_of_getElem? hg
  have el := (h.el g mg).small hl
  subst el
  have hd := fst_get hi hg hl
  have := (ha.2.2 g mg).1
  rw [mdiv_iff] at hd
  rw [mem_regA] at hm
  simp only at hd
  lia
noncomputable def IL (n k: Nat) (G: List Po): Prop := (∃ N, L1 n k N G) ∨ ∃ s N, s ≤ k ∧ L0 n s k N G
theorem Ell.snoc {q: Po} (h: Ell N G): Ell N (G ++ [q]) := by
 obtain ⟨i, g, h1, h2, h3⟩ := h
 have := (List.getElem?_eq_some_iff.mp h2).1
 exact ⟨i, g, h1, by rw [List.getElem?_append_left this]; exact h2, h3⟩
theorem L1.tail (h: L1 n k N G) {f: Po} {J: Mo} {i: Nat} (hi: G[i]? = some f) (h1: J.1 ≤ 2) (h2: J.2 ≤ 3) (hd: mdiv (lM .lex f) J = true): ∀ x ∈ f, lt .lex x.1 (lM .lex f) → mP x.1 (mM J (lM .lex f)) ∈ regL1 (9 + 6 * k) := fun x hx hlt => by
 rw [mem_regL1]
 rw [lex_lt] at hlt
 rw [mdiv_iff] at hd
 have hld := h.ld f (List.mem_of_getElem? hi)
 by_cases q: i < N
 ·obtain ⟨a, b⟩ := mv1 hd (lexle hlt) ((h.light i f q hi).hl x hx)
  exact ⟨Nat.le_trans a h1, Nat.le_trans b (Nat.le_trans (Nat.add_le_add (Nat.mul_le_mul_left 3 h1) h2) (Nat.le_add_right ..))⟩
 ·have := h.heavy i f (by exact Nat.not_lt.mp ‹_›) hi x hx
  unfold hh at *; simp only [mP, mM]; lia
theorem L0.tail (h: L0 n s k N G) {f: Po} {J: Mo} (hf: f ∈ G) (h1: J.1 ≤ 2) (h2: J.2 ≤ YB s) (hd: mdiv (lM .lex f) J = true): ∀ x ∈ f, lt .lex x.1 (lM .lex f) → mP x.1 (mM J (lM .lex f)) ∈ regL0 (YB s) := fun x hx hlt => by
 rw [mem_regL0]
 rw [lex_lt] at hlt
 rw [mdiv_iff] at hd
 have hy := h.yy f hf x hx
 simp only [mP, mM]
 refine ⟨by lia,?_⟩
 rcases hlt with c | ⟨c1, c2⟩
 ·have e1: (3 - (x.1.1 + (J.1 - (lM .lex f).1))) * YB s ≥ 2 * YB s := Nat.mul_le_mul_right _ (by lia)
  lia
 ·have e1: (3 - (x.1.1 + (J.1 - (lM .lex f).1))) * YB s ≥ 1 * YB s := Nat.mul_le_mul_right _ (by lia)
  lia
theorem L1.pair (h: L1 n k N G) (hk: k < 5) {i j: Nat} {f g: Po} (hi: G[i]? = some f) (hj: G[j]? = some g) :
  ∃ fin, SpD .lex G f g fin ∧ OkP fin.rest ∧ (Ell N G → fin.rest ≠ [] → k < 4 → IL n (k + 1) (G ++ [monicP .lex fin.rest])) := by
 have mf := List.mem_of_getElem? hi
 have mg := List.mem_of_getElem? hj
 have E := h.el f mf
 have F := h.el g mg
 obtain ⟨w1, w2, w3, w4, w5⟩ := WA_step k hk
 obtain ⟨a1, a2⟩ := h.ld f mf
 obtain ⟨b1, b2⟩ := h.ld g mg
 have a3 := E.x2 _ E.mon.mem
 have b3 := F.x2 _ F.mon.mem
 simp only at a3 b3
 have J1: (jn .lex f g).1 ≤ 2 := Nat.max_le.mpr ⟨a3, b3⟩
 have J2: (jn .lex f g).2 ≤ 3 := Nat.max_le.mpr ⟨a2, b2⟩
 obtain ⟨fin, r1, r2, r3, r4, r5⟩ := sp_of_rg (C := WA (k + 1) + 2) (rgL1 h hk) E.mon F.mon mf mg E.sz F.sz (by assumption) w2 (by exact Nat.le_trans ‹_› (by decide)) (by lia)
  (h.tail hi J1 J2 (jl .lex f g)) (h.tail hj J1 J2 (jr .lex f g))
 refine ⟨fin, r1, r2, fun hell hne hk4 => ?_⟩
 obtain ⟨n1, n2, n3, n4, n5⟩ := new_facts (o := .lex) r2 hne r4 r5 w2
 have hlen := h.len
 have hnl := h.nl
 have nreg: ∀ e ∈ monicP .lex fin.rest, e.1.1 ≤ 2 ∧ hh e.1 ≤ 9 + 6 * k := fun e he => by
  obtain ⟨x, hx, e1⟩ := n4 e he
  rw [← e1]; exact mem_regL1.mp (r3 x hx).1
 have newE: El (monicP .lex fin.rest) (WA (k + 1)) := ⟨n1, n2, n3, fun e he => by have := n5 e he; assumption, fun e he => (nreg e he).1⟩
 have dl: (G ++ [monicP .lex fin.rest]).length = n + (k + 1) := by rw [List.length_append, List.length_singleton]; lia
 by_cases q: (lM .lex (monicP .lex fin.rest)).1 = 0
 ·refine .inr ⟨k + 1, N, Nat.le_refl _, dl, by lia, fun g' hg' => ?_, fun i' g' hi' hg' => ?_, fun g' hg' e he => ?_, ⟨_, by simp, q⟩, hell.snoc⟩
  ·rw [WB_diag (k + 1) (by exact Nat.lt_succ_of_le ‹_›)]
   rcases List.mem_append.mp hg' with c | c
   ·exact (h.el g' c).mono w4
   ·rw [List.mem_singleton] at c; rw [c]; exact newE
  ·rcases snoc_get hg' with ⟨uu, c⟩ | ⟨c, uu⟩
   ·exact (h.light i' g' hi' c).sz2
   ·lia
  ·obtain ⟨i', hi'⟩ := List.getElem?_of_mem hg'
   unfold YB
   rcases snoc_get hi' with ⟨uu, c⟩ | ⟨uu, c⟩
   ·by_cases q2: i' < N
    ·have := (h.light i' g' q2 c).y3 e he; exact Nat.le_trans ‹_› (Nat.le_add_right _ _)
    ·have := h.heavy i' g' (by exact Nat.not_lt.mp ‹_›) c e he
     unfold hh at this; lia
   ·rw [c] at he
    have := (nreg e he).2
    unfold hh at this; lia
 ·refine .inl ⟨N, dl, by lia, fun g' hg' => ?_, fun i' g' hi' hg' => ?_, fun i' g' hi' hg' e he => ?_, fun g' hg' => ?_, .inr hell.snoc⟩
  ·rcases List.mem_append.mp hg' with c | c
   ·exact (h.el g' c).mono w4
   ·rw [List.mem_singleton] at c; rw [c]; exact newE
  ·rcases snoc_get hg' with ⟨uu, c⟩ | ⟨c, uu⟩
   ·exact h.light i' g' hi' c
   ·lia
  ·rcases snoc_get hg' with ⟨uu, c⟩ | ⟨uu, c⟩
   ·have := h.heavy i' g' hi' c e he; lia
   ·rw [c] at he
    have := (nreg e he).2; lia
  ·rcases List.mem_append.mp hg' with c | c
   ·exact h.ld g' c
   ·rw [List.mem_singleton] at c; rw [c]
    refine ⟨by exact Nat.pos_of_ne_zero ‹_›,?_⟩
    obtain ⟨j', gj, j1, j2, j3, j4⟩ := hell
    obtain ⟨x, hx, e1⟩ := n4 _ n1.mem
    have hq := (r3 x hx).2 gj (List.mem_of_getElem? j2) (h.el gj (List.mem_of_getElem? j2)).mon
    rw [e1] at hq
    have: ¬ ((lM .lex gj).1 ≤ (lM .lex (monicP .lex fin.rest)).1 ∧ (lM .lex gj).2 ≤ (lM .lex (monicP .lex fin.rest)).2) := fun c => by rw [(mdiv_iff _ _).mpr c] at hq; cases hq
    lia
theorem L1.pairA (h: L1 n k N G) (ha: All2 n k N G) {f g: Po} (mf: f ∈ G) (mg: g ∈ G) :
  ∃ fin, SpD .lex G f g fin ∧ OkP fin.rest ∧ (fin.rest ≠ [] → IL n (k + 1) (G ++ [monicP .lex fin.rest])) := by
 have E := h.el f mf
 have F := h.el g mg
 obtain ⟨a0, a1, a2⟩ := ha
 subst a0 a1
 have tail: ∀ {f: Po} {J: Mo}, f ∈ G → J.1 = 2 → J.2 ≤ 1 → mdiv (lM .lex f) J = true → ∀ x ∈ f, lt .lex x.1 (lM .lex f) → mP x.1 (mM J (lM .lex f)) ∈ regA := fun {f J} hf h1 h2 hd x hx hlt => by
  rw [mem_regA]
  obtain ⟨c1, c2, c3⟩ := a2 f hf
  have c4 := (c3 x hx).2 hlt
  simp only [mP, mM]; lia
 have cost0: (regA.map fun uu => 0).sum = 0 := by decide
 obtain ⟨p1, p2, p3⟩ := a2 f mf
 obtain ⟨q1, q2, q3⟩ := a2 g mg
 have J1: (jn .lex f g).1 = 2 := by simp only [jn, mjoin]; lia
 have J2: (jn .lex f g).2 ≤ 1 := by simp only [jn, mjoin]; lia
 obtain ⟨fin, r1, r2, r3, r4, r5⟩ := sp_of_rg (C := 4) (W := 1) (rgA h ⟨rfl, rfl, a2⟩) E.mon F.mon mf mg (fun e he => (p3 e he).1) (fun e he => (q3 e he).1) (by exact Nat.le_refl _) (by exact Nat.le_add_left _ _) (by decide) (by lia)
  (tail mf J1 J2 (jl .lex f g)) (tail mg J1 J2 (jr .lex f g))
 refine ⟨fin, r1, r2, fun hne => ?_⟩
 obtain ⟨n1, n2, n3, n4, n5⟩ := new_facts (o := .lex) r2 hne r4 r5 (by exact Nat.le_add_left _ _)
 have hlen := h.len
 have nreg: ∀ e ∈ monicP .lex fin.rest, e.1.1 ≤ 1 ∧ e.1.2 ≤ 3 := fun e he => by
  obtain ⟨x, hx, e1⟩ := n4 e he
  rw [← e1]; exact mem_regA.mp (r3 x hx).1
 have newE: El (monicP .lex fin.rest) 2 := ⟨n1, n2, n3, fun e he => by have := n5 e he; assumption, fun e he => by have := (nreg e he).1; exact Nat.le_succ_of_le ‹_›⟩
 have dl: (G ++ [monicP .lex fin.rest]).length = N + (0 + 1) := by rw [List.length_append, List.length_singleton]; lia
 have hl := nreg _ n1.mem
 simp only at hl
 have hell: Ell (N + 1) (G ++ [monicP .lex fin.rest]) := ⟨N, monicP .lex fin.rest, by exact Nat.le_refl _, by rw [List.getElem?_append_right (by exact Nat.le_of_eq ‹_›), show N - G.length = 0 by lia]; rfl, hl⟩
 by_cases q: (lM .lex (monicP .lex fin.rest)).1 = 0
 ·refine .inr ⟨0, N + 1, by exact Nat.zero_le _, dl, by lia, fun g' hg' => ?_, fun i' g' hi' hg' => ?_, fun g' hg' e he => ?_, ⟨_, by simp, q⟩, hell⟩
  ·rcases List.mem_append.mp hg' with c | c
   ·exact (h.el g' c).mono (by decide)
   ·rw [List.mem_singleton] at c; rw [c]; exact newE.mono (by decide)
  ·rcases snoc_get hg' with ⟨c0, c⟩ | ⟨uu, c⟩
   ·exact (h.light i' g' (by lia) c).sz2
   ·rw [c]; exact newE.sz
  ·obtain ⟨i', hi'⟩ := List.getElem?_of_mem hg'
   unfold YB
   rcases snoc_get hi' with ⟨c0, c⟩ | ⟨uu, c⟩
   ·have := (h.light i' g' (by lia) c).y3 e he; assumption
   ·rw [c] at he
    have := (nreg e he).2; assumption
 ·refine .inl ⟨N + 1, dl, by lia, fun g' hg' => ?_, fun i' g' hi' hg' => ?_, fun i' g' hi' hg' e he => ?_, fun g' hg' => ?_, .inr hell⟩
  ·rcases List.mem_append.mp hg' with c | c
   ·exact (h.el g' c).mono (by decide)
   ·rw [List.mem_singleton] at c; rw [c]; exact newE.mono (by decide)
  ·rcases snoc_get hg' with ⟨c0, c⟩ | ⟨uu, c⟩
   ·exact h.light i' g' (by lia) c
   ·rw [c]
    refine ⟨fun e he => (nreg e he).2, newE.sz, fun e he => ?_⟩
    rcases lead_lt n3.wf.1 n1.lead he with c | c
    ·rw [c]; exact Nat.le_refl _
    ·rw [lex_lt] at c
     have := nreg e he
     simp only at c
     unfold hh; lia
  ·rcases snoc_get hg' with ⟨c0, c⟩ | ⟨c0, c⟩ <;> lia
  ·rcases List.mem_append.mp hg' with c | c
   ·exact h.ld g' c
   ·rw [List.mem_singleton] at c; rw [c]; lia
theorem L0.pair (h: L0 n s k N G) (hs: s ≤ k) (hk: k < 5) {f g: Po} (mf: f ∈ G) (mg: g ∈ G) :
  ∃ fin, SpD .lex G f g fin ∧ OkP fin.rest ∧ (fin.rest ≠ [] → k < 4 → IL n (k + 1) (G ++ [monicP .lex fin.rest])) := by
 have E := h.el f mf
 have F := h.el g mg
 obtain ⟨w1, w2, w3, w4, w5⟩ := WB_step s (by exact Nat.lt_of_le_of_lt ‹_› ‹_›) k hk hs
 have a3 := E.x2 _ E.mon.mem
 have b3 := F.x2 _ F.mon.mem
 have a4 := h.yy f mf _ E.mon.mem
 have b4 := h.yy g mg _ F.mon.mem
 simp only at a3 b3 a4 b4
 have J1: (jn .lex f g).1 ≤ 2 := by simp only [jn, mjoin]; lia
 have J2: (jn .lex f g).2 ≤ YB s := by simp only [jn, mjoin]; lia
 obtain ⟨fin, r1, r2, r3, r4, r5⟩ := sp_of_rg (C := WB s (k + 1) + 2) (rgL0 h (by exact Nat.lt_of_le_of_lt ‹_› ‹_›) hk hs) E.mon F.mon mf mg E.sz F.sz (by assumption) w2 (by exact Nat.le_trans ‹_› (by decide)) (by unfold YB at J2; lia)
  (h.tail mf J1 J2 (jl .lex f g)) (h.tail mg J1 J2 (jr .lex f g))
 refine ⟨fin, r1, r2, fun hne hk4 => ?_⟩
 obtain ⟨n1, n2, n3, n4, n5⟩ := new_facts (o := .lex) r2 hne r4 r5 w2
 have hlen := h.len
 have hnl := h.nl
 obtain ⟨ga, ma, xa⟩ := h.ax
 have nreg: ∀ e ∈ monicP .lex fin.rest, e.1.1 ≤ 2 ∧ e.1.2 ≤ YB s := fun e he => by
  obtain ⟨x, hx, e1⟩ := n4 e he
  rw [← e1]
  refine ⟨(mem_regL0.mp (r3 x hx).1).1,?_⟩
  have A := h.el ga ma
  have hq := (r3 x hx).2 ga ma A.mon
  have hy := h.yy ga ma _ A.mon.mem
  simp only at hy
  have: ¬ ((lM .lex ga).1 ≤ x.1.1 ∧ (lM .lex ga).2 ≤ x.1.2) := fun c => by rw [(mdiv_iff _ _).mpr c] at hq; cases hq
  lia
 have newE: El (monicP .lex fin.rest) (WB s (k + 1)) := ⟨n1, n2, n3, fun e he => by have := n5 e he; assumption, fun e he => (nreg e he).1⟩
 refine .inr ⟨s, N, by exact Nat.le_succ_of_le ‹_›, by rw [List.length_append, List.length_singleton]; lia, by rw [List.length_append]; exact Nat.le_succ_of_le ‹_›, fun g' hg' => ?_, fun i' g' hi' hg' => ?_, fun g' hg' e he => ?_, ⟨ga, by simp [ma], xa⟩, h.ell.snoc⟩
 ·rcases List.mem_append.mp hg' with c | c
  ·exact (h.el g' c).mono w4
  ·rw [List.mem_singleton] at c; rw [c]; exact newE
 ·rcases snoc_get hg' with ⟨uu, c⟩ | ⟨c, uu⟩
  ·exact h.light i' g' hi' c
  ·lia
 ·rcases List.mem_append.mp hg' with c | c
  ·exact h.yy g' c e he
  ·rw [List.mem_singleton] at c; rw [c] at he; exact (nreg e he).2
theorem start_lex {p: Po} (h: StartP p): ∀ e ∈ monicP .lex p, lt .lex e.1 (lM .lex (monicP .lex p)) → e.1.1 ≤ 1 ∧ e.1.2 ≤ 2 := by
 intro e he hlt
 have F := start_facts h
 obtain ⟨m1, m2, uu, m4, uu⟩ := monic_facts (o := .lex) F.wf F.ne
 obtain ⟨x, hx, ex⟩ := m4 e he
 obtain ⟨y, hy, ey⟩ := m4 _ m1.mem
 simp only at ey
 rw [← ey, ← ex, lex_lt] at hlt
 rw [← ex]
 rcases start_form h with ⟨m, c, hm, hc, rfl⟩ | ⟨t1, t2, c, hne, a1, a2, b1, b2, hc, rfl⟩
 ·rw [List.mem_singleton] at hx hy
  subst hx hy
  lia
 ·simp only [List.mem_cons, List.not_mem_nil, or_false] at hx hy
  rcases hx with rfl | rfl <;> rcases hy with rfl | rfl <;> simp only at hlt ⊢ <;> lia
noncomputable def famL {ps: List Po} (h3: ps.length ≤ 10) (hps: ∀ p ∈ ps, StartP p): Fam .lex ps where
 I k G := IL ps.length k G
 start := by
  have S: ∀ g ∈ ps.map (monicP .lex), StartM .lex g ∧ ∀ e ∈ g, lt .lex e.1 (lM .lex g) → e.1.1 ≤ 1 ∧ e.1.2 ≤ 2 := fun g hg => by
   obtain ⟨p, hp, rfl⟩ := List.mem_map.mp hg
   exact ⟨start_monic .lex (hps p hp), start_lex (hps p hp)⟩
  have hsm: ∀ g ∈ ps.map (monicP .lex), SM (lM .lex g) := fun g hg => (S g hg).1.sm _ (S g hg).1.mon.mem
  have E: ∀ g ∈ ps.map (monicP .lex), El g 2 := fun g hg => by
   obtain ⟨s1, uu⟩ := S g hg
   exact ⟨s1.mon, s1.len, s1.okp, fun e he => by have := s1.ss e he; exact Nat.le_succ_of_le ‹_›, fun e he => by have := s1.sm e he; unfold SM at this; lia⟩
  have L: ∀ g ∈ ps.map (monicP .lex), Lt g := fun g hg => by
   obtain ⟨s1, s2⟩ := S g hg
   refine ⟨fun e he => by have := s1.sm e he; unfold SM at this; lia, (E g hg).sz, fun e he => ?_⟩
   rcases lead_lt s1.mon.wf.1 s1.mon.lead he with c | c
   ·rw [c]; exact Nat.le_refl _
   ·have := s2 e he c
    rw [lex_lt] at c
    simp only at c
    unfold hh; lia
  have ell: ∀ g ∈ ps.map (monicP .lex), (lM .lex g).1 ≤ 1 → Ell ps.length (ps.map (monicP .lex)) := fun g hg h1 => by
   obtain ⟨i, hi⟩ := List.getElem?_of_mem hg
   have := (List.getElem?_eq_some_iff.mp hi).1
   rw [List.length_map] at this
   have := hsm g hg
   unfold SM at this
   exact ⟨i, g, by assumption, hi, h1, by lia⟩
  by_cases q: ∃ g ∈ ps.map (monicP .lex), (lM .lex g).1 = 0
  ·obtain ⟨g, hg, h0⟩ := q
   exact .inr ⟨0, ps.length, Nat.le_refl _, by simp, by simp, E, fun i g uu hi => (E g (List.mem_of_getElem? hi)).sz, fun g hg e he => (L g hg).y3 e he, ⟨g, hg, h0⟩, ell g hg (by lia)⟩
  ·refine .inl ⟨ps.length, by simp, by simp, E, fun i g uu hi => L g (List.mem_of_getElem? hi), fun i g hN hi => ?_, fun g hg => ⟨?_,?_⟩,?_⟩
   ·have := (List.getElem?_eq_some_iff.mp hi).1
    rw [List.length_map] at this
    lia
   ·have: (lM .lex g).1 ≠ 0 := fun c => q ⟨g, hg, c⟩
    exact Nat.pos_of_ne_zero ‹_›
   ·have := hsm g hg
    unfold SM at this; lia
   ·by_cases q2: ∃ g ∈ ps.map (monicP .lex), (lM .lex g).1 ≤ 1
    ·obtain ⟨g, hg, h1⟩ := q2
     exact .inr (ell g hg h1)
    ·refine .inl ⟨rfl, rfl, fun g hg => ?_⟩
     have c1: ¬ (lM .lex g).1 ≤ 1 := fun c => q2 ⟨g, hg, c⟩
     have c2 := hsm g hg
     unfold SM at c2
     exact ⟨by lia, by lia, fun e he => ⟨(S g hg).1.ss e he, (S g hg).2 e he⟩⟩
 rules k G h g hg := by
  rcases h with ⟨N, h⟩ | ⟨s, N, uu, h⟩
  ·exact ⟨(h.el g hg).mon, (h.el g hg).len, (h.el g hg).okp⟩
  ·exact ⟨(h.el g hg).mon, (h.el g hg).len, (h.el g hg).okp⟩
 len k G h := by
  rcases h with ⟨N, h⟩ | ⟨s, N, uu, h⟩
  ·have := h.len; lia
  ·have := h.len; lia
 sp k G h hk i j f g hij hi hj hap := by
  rcases h with ⟨N, h⟩ | ⟨s, N, hs, h⟩
  ·rcases h.ell with ha | ha
   ·exact h.pairA ha (List.mem_of_getElem? hi) (List.mem_of_getElem? hj)
   ·obtain ⟨fin, r1, r2, r3⟩ := h.pair (by exact Nat.lt_of_le_of_lt ‹_› (by decide)) hi hj
    exact ⟨fin, r1, r2, fun c => r3 ha c (by exact Nat.lt_succ_of_le ‹_›)⟩
  ·obtain ⟨fin, r1, r2, r3⟩ := h.pair hs (by exact Nat.lt_of_le_of_lt ‹_› (by decide)) (List.mem_of_getElem? hi) (List.mem_of_getElem? hj)
   exact ⟨fin, r1, r2, fun c => r3 c (by exact Nat.lt_succ_of_le ‹_›)⟩
 fin k G h hk i j f g hij hi hj := by
  rcases h with ⟨N, h⟩ | ⟨s, N, hs, h⟩
  ·obtain ⟨fin, r1, uu⟩ := h.pair (by exact Nat.lt_succ_of_le ‹_›) hi hj
   exact ⟨fin, r1⟩
  ·obtain ⟨fin, r1, uu⟩ := h.pair hs (by exact Nat.lt_succ_of_le ‹_›) (List.mem_of_getElem? hi) (List.mem_of_getElem? hj)
   exact ⟨fin, r1⟩
 mem k G h hk p hp := by
  have S := start_facts (hps p hp)
  rcases h with ⟨N, h⟩ | ⟨s, N, hs, h⟩
  ·obtain ⟨w1, w2, w3, w4, w5⟩ := WA_step k (by exact Nat.lt_succ_of_le ‹_›)
   refine mem_of_rg (C := WA (k + 1) + 2) (rgL1 h (by exact Nat.lt_succ_of_le ‹_›)) S (fun e he => mem_regL1.mpr ?_) (by lia) w2 (by exact Nat.le_trans ‹_› (by decide))
   have := S.sm e he
   unfold SM at this
   unfold hh; lia
  ·obtain ⟨w1, w2, w3, w4, w5⟩ := WB_step s (by lia) k (by exact Nat.lt_succ_of_le ‹_›) hs
   refine mem_of_rg (C := WB s (k + 1) + 2) (rgL0 h (by lia) (by exact Nat.lt_succ_of_le ‹_›) hs) S (fun e he => mem_regL0.mpr ?_) (by lia) w2 (by exact Nat.le_trans ‹_› (by decide))
   have := S.sm e he
   unfold SM at this
   refine ⟨by lia,?_⟩
   have e1: (3 - e.1.1) * YB s ≥ 1 * YB s := Nat.mul_le_mul_right _ (by lia)
   unfold YB at *; lia
theorem bound_start {o: Od} {ps: List Po} (h0: 0 < ps.length) (h3: ps.length ≤ 10) (hps: ∀ p ∈ ps, StartP p): Nonempty (Fam o ps) := by
 by_cases q: o = .lex
 ·subst q; exact ⟨famL h3 hps⟩
 ·exact ⟨famG q h0 h3 hps⟩
end
end Mine.Internal.Pl
end
section
namespace Mine.Internal.Pl
theorem addT_wf {p: Po} (h: Wf p) (m: Mo) (c: Rat): Wf (addT p m c) := ⟨addT_nodup h.1 m c, addT_nz h.2 m c⟩
structure Sm (A D L: Nat) (p: Po): Prop where
 wf: Wf p
 wt: wt p ≤ A
 box: ∀ e ∈ p, e.1.1 ≤ D ∧ e.1.2 ≤ D
 len: p.length ≤ L
theorem wf_nil: Wf [] := ⟨by simp, by simp⟩
theorem okP_nil: OkP [] := okP_of wf_nil (by simp) (by simp) (by simp)
theorem Sm.nil {D: Nat}: Sm 0 D 0 [] := ⟨wf_nil, Nat.le_refl _, by simp, by simp⟩
theorem Sm.mono {A D L A' D' L': Nat} {p: Po} (h: Sm A D L p) (a: A ≤ A') (d: D ≤ D') (l: L ≤ L'): Sm A' D' L' p :=
 ⟨h.wf, Nat.le_trans h.wt a, fun e he => by have := h.box e he; lia, Nat.le_trans h.len l⟩
theorem Sm.okp {A D L: Nat} {p: Po} (h: Sm A D L p) (a: A ≤ 60000000) (d: D ≤ 200) (l: L ≤ 100000): OkP p :=
 okP_of h.wf (fun e he => by have := wt_mem he; have := h.wt; lia) (fun e he => by have := h.box e he; lia) (by have := h.len; exact Nat.le_trans ‹_› ‹_›)
theorem Sm.addT {A D L: Nat} {p: Po} (h: Sm A D L p) (e: Mo × Rat) (he: e.1.1 ≤ D ∧ e.1.2 ≤ D): Sm (A + (sz e.2 + 1)) D (L + 1) (Internal.addT p e.1 e.2) := by
 refine ⟨addT_wf h.wf _ _,?_, fun x hx => ?_,?_⟩
 ·have := wt_addT h.wf.1 e.1 e.2
  have := h.wt
  lia
 ·rcases addT_mem hx with q | q
  ·rw [q]; exact he
  ·exact h.box x q
 ·have := addT_length p e.1 e.2
  have := h.len
  lia
theorem Sm.addList {D: Nat}: ∀ (l: Po) {A L: Nat} {p: Po}, Sm A D L p → (∀ e ∈ l, e.1.1 ≤ D ∧ e.1.2 ≤ D) → Sm (A + Internal.Pl.wt l) D (L + l.length) (addL p l) := by
 intro xs1
 induction xs1 with
 | nil => intro A L p h uu; rw [wt_nil]; exact h
 | cons e l ih =>
  intro A L p h hl
  have := ih (h.addT e (hl e (.head _))) (fun x hx => hl x (.tail _ hx))
  rw [wt_cons, List.length_cons]
  exact this.mono (by lia) (Nat.le_refl _) (by lia)
theorem Sm.add {A B D L L': Nat} {p q: Po} (h: Sm A D L p) (h': Sm B D L' q): Sm (A + B) D (L + L') (addL p q) :=
 (Sm.addList q h h'.box).mono (by have := h'.wt; lia) (Nat.le_refl _) (by have := h'.len; lia)
theorem prods_cons (p: Po) (e: Mo × Rat) (q: Po): prods p (e :: q) = (p.map fun e' => (mP e'.1 e.1, e'.2 * e.2)) ++ prods p q := rfl
theorem wt_row (p: Po) (e: Mo × Rat): wt (p.map fun e' => (mP e'.1 e.1, e'.2 * e.2)) ≤ wt p * (sz e.2 + 1) := by
 induction p with
 | nil => simp [wt_nil]
 | cons x p ih =>
  rw [List.map_cons, wt_cons, wt_cons, Nat.add_mul]
  have h := sz_mul x.2 e.2
  have h2: (sz x.2 + 1) * (sz e.2 + 1) = sz x.2 * sz e.2 + sz x.2 + sz e.2 + 1 := by
   rw [Nat.add_mul, Nat.mul_add]; lia
  simp only
  lia
theorem wt_prods (p q: Po): wt (prods p q) ≤ wt p * wt q := by
 induction q with
 | nil => exact Nat.zero_le _
 | cons e q ih =>
  rw [prods_cons, wt_append, wt_cons, Nat.mul_add]
  have := wt_row p e
  exact Nat.add_le_add ‹_› ‹_›
theorem prods_mem {p q: Po} {x: Mo × Rat} (h: x ∈ prods p q): ∃ e ∈ q, ∃ e' ∈ p, x = (mP e'.1 e.1, e'.2 * e.2) := by
 unfold prods at h
 obtain ⟨e, he, h⟩ := List.mem_flatMap.mp h
 obtain ⟨e', he', h⟩ := List.mem_map.mp h
 exact ⟨e, he, e', he', h.symm⟩
theorem prods_length (p q: Po): (prods p q).length = p.length * q.length := by
 induction q with
 | nil => rfl
 | cons e q ih => rw [prods_cons, List.length_append, List.length_map, ih, List.length_cons, Nat.mul_add]; lia
theorem Sm.part {A B D D' L L': Nat} {p q: Po} (h: Sm A D L p) (h': Sm B D' L' q) (l: Po) (hl: l <+: prods p q): Sm (A * B) (D + D') (L * L') (addL [] l) := by
 have hb: ∀ e ∈ l, e.1.1 ≤ D + D' ∧ e.1.2 ≤ D + D' := fun e he => by
  obtain ⟨x, hx, y, hy, q⟩ := prods_mem (hl.subset he)
  have := h.box y hy
  have := h'.box x hx
  rw [q]; simp only [mP]; lia
 have w1: Internal.Pl.wt l ≤ Internal.Pl.wt p * Internal.Pl.wt q := by
  obtain ⟨r, hr⟩ := hl
  have := wt_prods p q
  rw [← hr, wt_append] at this
  lia
 have w2: l.length ≤ p.length * q.length := by rw [← prods_length]; exact hl.length_le
 refine (Sm.addList l Sm.nil hb).mono ?_ (Nat.le_refl _) ?_
 ·have := Nat.mul_le_mul h.wt h'.wt
  lia
 ·have := Nat.mul_le_mul h.len h'.len
  lia
theorem Sm.mul {A B D D' L L': Nat} {p q: Po} (h: Sm A D L p) (h': Sm B D' L' q): Sm (A * B) (D + D') (L * L') (mulP p q) := h.part h' _ List.prefix_rfl
theorem Sm.mulOk {A B D D' L L': Nat} {p q: Po} (h: Sm A D L p) (h': Sm B D' L' q) (okp: OkP p) (okq: OkP q) (hw: A * B ≤ 60000000) (hl: L * L' ≤ 100000): MulOk p q := by
 refine ⟨okp, okq, fun e he => szB_of ?_, fun l hl e he => szB_of ?_,?_⟩
 ·have h1 := wt_mem he
  have h2 := wt_prods p q
  have h3 := Nat.mul_le_mul h.wt h'.wt
  lia
 ·have h1 := wt_mem he
  have h2 := (h.part h' l hl).wt
  lia
 ·rw [prods_length]
  have := Nat.mul_le_mul h.len h'.len
  exact Nat.le_trans ‹_› ‹_›
theorem rs_row (p: Po) (e: Mo × Rat) (k: Mo): rs (p.map fun e' => (mP e'.1 e.1, e'.2 * e.2)) k = e.2 * sh e.1 (rs p) k := by
 induction p with
 | nil =>
  rw [List.map_nil, rs_nil, sh_zero]; grind
 | cons x p ih =>
  rw [List.map_cons, rs_cons, ih]
  have: rs (x :: p) = fun k => (if x.1 = k then x.2 else 0) + rs p k := by funext k; exact rs_cons x p k
  rw [this, sh_add]
  have e2: sh e.1 (fun k => if x.1 = k then x.2 else 0) k = if mP x.1 e.1 = k then x.2 else 0 := by
   unfold sh
   by_cases h: mdiv e.1 k = true
   ·rw [if_pos h]
    simp only [shift_key, h, true_and]
   ·rw [if_neg h]
    simp only [shift_key, h, false_and]; simp
  rw [e2]
  by_cases h: mP x.1 e.1 = k
  ·simp only [h, if_true]; grind
  ·simp only [h, if_false]; grind
noncomputable def ms (q: Po) (f: Fn): Fn := fun k => (q.map fun e => e.2 * sh e.1 f k).sum
theorem ms_cons (e: Mo × Rat) (q: Po) (f: Fn) (k: Mo): ms (e :: q) f k = e.2 * sh e.1 f k + ms q f k := by simp [ms]
theorem ms_nil (f: Fn) (k: Mo): ms [] f k = 0 := by simp [ms]
theorem rs_prods (p q: Po) (k: Mo): rs (prods p q) k = ms q (rs p) k := by
 induction q with
 | nil => rfl
 | cons e q ih => rw [prods_cons, rs_append, rs_row, ih, ms_cons]
theorem ms_sub (q: Po) (f g: Fn) (k: Mo): ms q (fun m => f m - g m) k = ms q f k - ms q g k := by
 induction q with
 | nil => rw [ms_nil, ms_nil, ms_nil]; grind
 | cons e q ih =>
  rw [ms_cons, ms_cons, ms_cons, ih]
  have: sh e.1 (fun m => f m - g m) k = sh e.1 f k - sh e.1 g k := by unfold sh; split <;> grind
  rw [this]; grind
theorem ms_comm (p q: Po) (k: Mo): ms p (rs q) k = ms q (rs p) k := by
 induction p with
 | nil =>
  rw [ms_nil]
  have: ∀ q: Po, ms q (rs []) k = 0 := fun q => by
   induction q with
   | nil => rfl
   | cons e q ih => rw [ms_cons, ih, rs_nil, sh_zero]; grind
  rw [this]
 | cons x p ih =>
  rw [ms_cons, ih]
  have key: ∀ q: Po, ms q (rs (x :: p)) k = x.2 * sh x.1 (rs q) k + ms q (rs p) k := fun q => by
   induction q with
   | nil => rw [ms_nil, ms_nil, rs_nil, sh_zero]; grind
   | cons e q ih =>
    rw [ms_cons, ms_cons, ih]
    have e1: rs (x :: p) = fun k => (if x.1 = k then x.2 else 0) + rs p k := by funext k; exact rs_cons x p k
    have e2: rs (e :: q) = fun k => (if e.1 = k then e.2 else 0) + rs q k := by funext k; exact rs_cons e q k
    have e3: ∀ (a b: Mo) (c: Rat), sh a (fun k => if b = k then c else 0) k = if mP b a = k then c else 0 := fun a b c => by
     unfold sh
     by_cases h: mdiv a k = true
     ·rw [if_pos h]
      simp only [shift_key, h, true_and]
     ·rw [if_neg h]
      simp only [shift_key, h, false_and]; simp
    rw [e1, e2, sh_add, sh_add, e3, e3, mplus_comm e.1 x.1]
    by_cases h: mP x.1 e.1 = k
    ·simp only [h, if_true]; grind
    ·simp only [h, if_false]; grind
  rw [key]
theorem ev_mulP (p q: Po) (k: Mo): ev (mulP p q) k = ms q (rs p) k := by
 unfold mulP
 rw [ev_addL, rs_prods, ev_nil]; grind
theorem ms_top {o: Od} {d g: Po} {ld l: Mo × Rat} (hd: Wf d) (hg: Wf g) (hld: lead o d = some ld) (hl: lead o g = some l): ms g (ev d) (mP l.1 ld.1) = l.2 * ld.2 := by
 have zero: ∀ g': Po, (∀ e ∈ g', lt o e.1 l.1) → ms g' (ev d) (mP l.1 ld.1) = 0 := by
  intro g'
  induction g' with
  | nil => intro uu; rfl
  | cons e g' ih =>
   intro h
   rw [ms_cons, ih fun x hx => h x (.tail _ hx), sh_lead_zero hd.1 hld]
   ·grind
   ·have := lt_plus ld.1 (h e (.head _))
    rw [mplus_comm e.1, mplus_comm l.1]; exact this
 have key: ∀ g': Po, (g'.map (·.1)).Nodup → l ∈ g' → (∀ e ∈ g', e = l ∨ lt o e.1 l.1) → ms g' (ev d) (mP l.1 ld.1) = l.2 * ld.2 := by
  intro g'
  induction g' with
  | nil => intro uu h; cases h
  | cons e g' ih =>
   intro hn hm h
   rw [List.map_cons, List.nodup_cons] at hn
   rw [ms_cons]
   rcases List.mem_cons.mp hm with q | q
   ·subst q
    rw [zero g' fun x hx => (h x (.tail _ hx)).resolve_left fun q => hn.1 (by rw [← q]; exact List.mem_map_of_mem hx), sh_lead_at hd.1 hld]
    grind
   ·have hlt := (h e (.head _)).resolve_left fun c => hn.1 (by rw [c]; exact List.mem_map_of_mem q)
    rw [ih hn.2 q fun x hx => h x (.tail _ hx), sh_lead_zero hd.1 hld]
    ·grind
    ·have := lt_plus ld.1 hlt
     rw [mplus_comm e.1, mplus_comm l.1]; exact this
 exact key g hg.1 (lead_mem hl) fun e he => lead_lt hg.1 hl he
theorem subP_wf {a: Po} (h: Wf a) (b: Po): Wf (subP a b) := by
 unfold subP addL
 generalize negP b = c
 induction c generalizing a with
 | nil => exact h
 | cons e c ih => exact ih (addT_wf h _ _)
theorem Tsum_nil (G: List Po) (k: Mo): Tsum G [] k = 0 := rfl
theorem Tsum_cons (G: List Po) (t: Tr3) (T: List Tr3) (k: Mo): Tsum G (t :: T) k = t.2.2 * sh t.2.1 (ev (G.getD t.1 [])) k + Tsum G T k := by simp [Tsum]
theorem qOf_cons (t: Tr3) (T: List Tr3) (i: Nat): qOf (t :: T) i = if t.1 = i then t.2 :: qOf T i else qOf T i := by
 unfold qOf
 rw [List.filter_cons]
 by_cases h: t.1 = i <;> simp [h]
theorem Tsum_one (G: List Po) (k: Mo): ∀ T: List Tr3, (∀ t ∈ T, t.1 < 1) → Tsum G T k = ms (qOf T 0) (ev (G.getD 0 [])) k
 | [], _ => rfl
 | t :: T, h => by
  have h1 := h t (.head _)
  have e: t.1 = 0 := by lia
  rw [Tsum_cons, Tsum_one G k T fun x hx => h x (.tail _ hx), qOf_cons, if_pos e, ms_cons, e]
theorem Tsum_three (G: List Po) (k: Mo): ∀ T: List Tr3, (∀ t ∈ T, t.1 < 3) → Tsum G T k = ms (qOf T 0) (ev (G.getD 0 [])) k + ms (qOf T 1) (ev (G.getD 1 [])) k + ms (qOf T 2) (ev (G.getD 2 [])) k
 | [], _ => by
  have: ∀ i, qOf [] i = [] := fun i => rfl
  rw [this, this, this, ms_nil, ms_nil, ms_nil, Tsum_nil]; grind
 | t :: T, h => by
  have h1 := h t (.head _)
  rw [Tsum_cons, Tsum_three G k T fun x hx => h x (.tail _ hx), qOf_cons, qOf_cons, qOf_cons]
  have c: t.1 = 0 ∨ t.1 = 1 ∨ t.1 = 2 := by lia
  rcases c with c | c | c <;> rw [c] <;> simp [ms_cons] <;> grind
end Mine.Internal.Pl
end
section
namespace Mine.Internal.Pl
noncomputable def regS (o: Od): List Mo := match o with
 | .lex => (List.range 7).flatMap fun x => (List.range (21 - 3 * x)).map fun y => (x, y)
 | _ => regG 8
theorem mem_regS {o: Od} {m: Mo}: m ∈ regS o ↔ (o = .lex → hh m ≤ 20) ∧ (o ≠ .lex → m.1 + m.2 ≤ 8) := by
 cases o with
 | lex =>
  unfold regS hh
  rw [mem_box (b := fun x => 21 - 3 * x)]
  constructor
  ·intro h; exact ⟨fun uu => by lia, fun q => absurd rfl q⟩
  ·intro h; have := h.1 rfl; lia
 | grlex => unfold regS; rw [mem_regG]; exact ⟨fun h => ⟨fun q => (by cases q), fun uu => h⟩, fun h => h.2 (by intro q; cases q)⟩
 | grevlex => unfold regS; rw [mem_regG]; exact ⟨fun h => ⟨fun q => (by cases q), fun uu => h⟩, fun h => h.2 (by intro q; cases q)⟩
theorem regS_sum (o: Od): ((regS o).map fun uu => 2).sum ≤ 300 ∧ (regS o).length ≤ 150 := by cases o <;> decide +kernel
theorem start_hh {p: Po} (h: StartP p) {l: Mo × Rat} (hl: lead .lex p = some l): ∀ e ∈ p, hh e.1 ≤ hh l.1 := by
 intro e he
 have hm := lead_mem hl
 have hx := lead_max hl e he
 rw [lex_lt] at hx
 unfold hh
 rcases start_form h with ⟨m, c, uu, hc, rfl⟩ | ⟨t1, t2, c, hne, a1, a2, b1, b2, hc, rfl⟩
 ·rw [List.mem_singleton] at hm he
  subst hm he; exact Nat.le_refl _
 ·simp only [List.mem_cons, List.not_mem_nil, or_false] at hm he
  rcases hm with rfl | rfl <;> rcases he with rfl | rfl <;> simp only at hx ⊢ <;> lia
theorem rgS (o: Od) {G: List Po} (hG: ∀ g ∈ G, g = [] ∨ StartP g): Rg o G (regS o) (fun uu => 2) := by
 refine ⟨fun g hg => ?_, fun g hg l hl => ?_, fun m hm => ?_, fun m i g l hm hi hg hl e he hne => ?_⟩
 ·rcases hG g hg with rfl | h
  ·exact ⟨okP_nil, by simp⟩
  ·exact ⟨(start_facts h).okp, (start_facts h).len⟩
 ·rcases hG g hg with rfl | h
  ·cases hl
  ·have := (start_facts h).ss _ (lead_mem hl); exact Nat.le_trans ‹_› (by decide)
 ·have := mem_regS.mp hm
  by_cases q: o = .lex
  ·have := this.1 q; unfold hh at this; lia
  ·have := this.2 q; lia
 ·have hd := fst_get hi hg hl
  rcases hG g (List.mem_of_getElem? hg) with rfl | h
  ·cases hl
  ·have F := start_facts h
   have s1 := F.ss _ (lead_mem hl)
   have s2 := F.ss _ he
   have hlt := (lead_lt F.wf.1 hl he).resolve_left hne
   refine ⟨?_, by lia⟩
   rw [mem_regS] at hm ⊢
   rw [mdiv_iff] at hd
   refine ⟨fun q => ?_, fun q => ?_⟩
   ·have h1 := hm.1 q
    subst q
    have h2 := start_hh h hl e he
    unfold hh at *; simp only [mP, mM]; lia
   ·have h1 := hm.2 q
    have h2 := deg_lt q hlt
    simp only [mP, mM]; lia
theorem start_reg (o: Od) {f: Po} (h: StartF f): ∀ e ∈ f, e.1 ∈ regS o := fun e he => by
 have := h.sm e he
 unfold SM at this
 rw [mem_regS]
 exact ⟨fun uu => by unfold hh; lia, fun uu => by lia⟩
theorem start_sm {f: Po} (h: StartF f): Sm 3 2 2 f := ⟨h.wf, h.wt, fun e he => by have := h.sm e he; unfold SM at this; lia, h.len⟩
theorem ms_fn {q: Po} {f f': Fn} (h: ∀ k, f k = f' k) (k: Mo): ms q f k = ms q f' k := by rw [funext h]
section
variable {o: Od} {f: Po} {G: List Po} {R: List Mo} {cost: Mo → Nat} {C: Nat} {st: DSt} {T: List Tr3}
theorem DI.smq (h: DI o f G R cost C st T) (rg: Rg o G R cost) {L: Nat} (hR: R.length ≤ L) (i: Nat): Sm (L * (C + 11)) 200 L (qOf T i) := by
 have mem: ∀ e ∈ qOf T i, (i, e) ∈ T := fun e he => by
  unfold qOf at he
  obtain ⟨t, ht, rfl⟩ := List.mem_map.mp he
  obtain ⟨h1, h2⟩ := List.mem_filter.mp ht
  have: t.1 = i := by simpa using h2
  rw [← this]; exact h1
 have len: (qOf T i).length ≤ L := by
  have h1: (qOf T i).length ≤ T.length := by unfold qOf; rw [List.length_map]; exact List.length_filter_le ..
  have := h.tl
  lia
 have sm: ∀ p: Po, (∀ e ∈ p, sz e.2 ≤ C + 10) → wt p ≤ p.length * (C + 11) := by
  intro p
  induction p with
  | nil => intro uu; exact Nat.zero_le _
  | cons e p ih =>
   intro h
   rw [wt_cons, List.length_cons, Nat.succ_mul]
   have := h e (.head _)
   have := ih fun x hx => h x (.tail _ hx)
   lia
 refine ⟨⟨h.tn i, fun e he => ?_⟩,?_, fun e he => ?_, len⟩
 ·obtain ⟨g, l, uu, uu, uu, uu, h1, uu, uu⟩ := h.tr _ (mem e he); exact h1
 ·have h1 := sm (qOf T i) fun e he => by
   obtain ⟨g, l, uu, uu, uu, uu, uu, h1, uu⟩ := h.tr _ (mem e he); exact h1
  have := Nat.mul_le_mul_right (C + 11) len
  exact Nat.le_trans ‹_› ‹_›
 ·obtain ⟨g, l, uu, uu, uu, uu, uu, uu, h1⟩ := h.tr _ (mem e he)
  have := rg.box _ h1
  simp only [mP] at this
  lia
theorem DI.idx (h: DI o f G R cost C st T) {t: Tr3} (ht: t ∈ T): t.1 < G.length ∧ G.getD t.1 [] ≠ [] := by
 obtain ⟨g, l, t1, t2, uu, uu, uu, uu, uu⟩ := h.tr t ht
 refine ⟨(List.getElem?_eq_some_iff.mp t1).1,?_⟩
 have: G.getD t.1 [] = g := by simp [List.getD, t1]
 rw [this]
 intro q; rw [q] at t2; cases t2
end
theorem parts_of {o: Od} {f: Po} {ps: List Po} (hn: 2 ≤ ps.length) (hps: ∀ p ∈ ps, StartP p) (hf: StartP f) :
  ∃ fin, Div o f ([] :: ps.take 2) fin ∧ fin.qs.length = 3 ∧ fin.qs[0]? = some [] ∧ (∀ i q s, fin.qs[i]? = some q → ([] :: ps.take 2)[i]? = some s → MulOk q s ∧ OkP (sumTo fin.qs ([] :: ps.take 2) i) ∧ OkP (mulP q s)) ∧
  OkP (sumTo fin.qs ([] :: ps.take 2) 3) ∧ OkP fin.rest ∧ SameP (addL (sumTo fin.qs ([] :: ps.take 2) 3) fin.rest) f := by
 obtain ⟨a, b, hab⟩: ∃ a b, ps.take 2 = [a, b] := by
  rcases ps with uu | ⟨a, uu | ⟨b, r⟩⟩
  ·exact absurd hn (by decide)
  ·exact absurd hn (by simp)
  ·exact ⟨a, b, rfl⟩
 have hps2: ∀ p ∈ ps.take 2, StartP p := fun p hp => hps p (List.mem_of_mem_take hp)
 rw [hab] at hps2 ⊢
 have ha := hps2 a (by simp)
 have hb := hps2 b (by simp)
 have F := start_facts hf
 obtain ⟨r1, r2⟩ := regS_sum o
 have rg := rgS o (G := [[], a, b]) (fun g hg => by
  simp only [List.mem_cons, List.not_mem_nil, or_false] at hg
  rcases hg with rfl | rfl | rfl
  ·exact .inl rfl
  ·exact .inr ha
  ·exact .inr hb)
 obtain ⟨fin, T, d1, d2, d3⟩ := div_ok (C := 310) rg F.okp (start_reg o F) (by have := F.wt; lia) (by exact Nat.le_add_left _ _) (by have := F.len; exact Nat.le_trans ‹_› (by decide)) (by exact Nat.le_trans ‹_› (by decide))
 have hqs: fin.qs = [qOf T 0, qOf T 1, qOf T 2] := d3.qs
 have q0: qOf T 0 = [] := by
  cases hq: qOf T 0 with
  | nil => rfl
  | cons e r =>
   exfalso
   have he: e ∈ qOf T 0 := by rw [hq]; exact .head _
   unfold qOf at he
   obtain ⟨t, ht, rfl⟩ := List.mem_map.mp he
   obtain ⟨h1, h2⟩ := List.mem_filter.mp ht
   have h0: t.1 = 0 := by simpa using h2
   have := (d3.idx h1).2
   rw [h0] at this
   exact this rfl
 have Q: ∀ i, Sm (150 * 321) 200 150 (qOf T i) := fun i => d3.smq rg r2 i
 have okq: ∀ i, OkP (qOf T i) := fun i => (Q i).okp (by exact Nat.le_add_left _ _) (by exact Nat.le_refl _) (by exact Nat.le_add_left _ _)
 have Q20: ∀ i, Sm (150 * 321) 20 150 (qOf T i) := fun i => by
  refine ⟨(Q i).wf, (Q i).wt, fun e he => ?_, (Q i).len⟩
  unfold qOf at he
  obtain ⟨t, ht, rfl⟩ := List.mem_map.mp he
  obtain ⟨h1, h2⟩ := List.mem_filter.mp ht
  obtain ⟨g, l, uu, uu, uu, uu, uu, uu, h5⟩ := d3.tr t h1
  have h6 := mem_regS.mp h5
  simp only [mP] at h6
  by_cases c: o = .lex
  ·have := h6.1 c; unfold hh at this; simp only at this; lia
  ·have := h6.2 c; lia
 have SA := start_sm (start_facts ha)
 have SB := start_sm (start_facts hb)
 have M0: Sm 0 22 0 (mulP (qOf T 0) []) := Sm.nil
 have M1 := (Q20 1).mul SA
 have M2 := (Q20 2).mul SB
 have S1: sumTo fin.qs [[], a, b] 1 = [] := by rw [hqs]; rfl
 have S2: sumTo fin.qs [[], a, b] 2 = addL [] (mulP (qOf T 1) a) := by
  show addL (sumTo fin.qs [[], a, b] 1) (mulP (fin.qs.getD 1 []) a) = _
  rw [S1, hqs]; rfl
 have S3: sumTo fin.qs [[], a, b] 3 = addL (addL [] (mulP (qOf T 1) a)) (mulP (qOf T 2) b) := by
  show addL (sumTo fin.qs [[], a, b] 2) (mulP (fin.qs.getD 2 []) b) = _
  rw [S2, hqs]; rfl
 have N1: Sm 0 22 0 ([]: Po) := Sm.nil
 have N2 := N1.add M1
 have N3 := N2.add M2
 have okr := d3.okr rg (by exact Nat.le_add_left _ _) (by have := F.len; exact Nat.le_trans ‹_› (by decide))
 refine ⟨fin, d1, by rw [hqs]; rfl, by rw [hqs, q0]; rfl, fun i q s hi hs => ?_,?_, okr,?_⟩
 ·have hi3: i < 3 := by
   have := (List.getElem?_eq_some_iff.mp hs).1
   exact this
  rw [hqs] at hi
  have c: i = 0 ∨ i = 1 ∨ i = 2 := by lia
  rcases c with rfl | rfl | rfl
  ·cases hi; cases hs
   rw [q0]
   refine ⟨(Sm.nil (D := 0)).mulOk (Sm.nil (D := 0)) okP_nil okP_nil (by exact Nat.zero_le _) (by exact Nat.zero_le _), okP_nil, okP_nil⟩
  ·cases hi; cases hs
   refine ⟨(Q20 1).mulOk SA (okq 1) (start_facts ha).okp (by exact Nat.le_add_left _ _) (by exact Nat.le_add_left _ _),?_, M1.okp (by exact Nat.le_add_left _ _) (by exact Nat.le_add_left _ _) (by exact Nat.le_add_left _ _)⟩
   rw [S1]; exact okP_nil
  ·cases hi; cases hs
   refine ⟨(Q20 2).mulOk SB (okq 2) (start_facts hb).okp (by exact Nat.le_add_left _ _) (by exact Nat.le_add_left _ _),?_, M2.okp (by exact Nat.le_add_left _ _) (by exact Nat.le_add_left _ _) (by exact Nat.le_add_left _ _)⟩
   rw [S2]; exact N2.okp (by exact Nat.le_add_left _ _) (by exact Nat.le_add_left _ _) (by exact Nat.le_add_left _ _)
 ·rw [S3]; exact N3.okp (by exact Nat.le_add_left _ _) (by exact Nat.le_add_left _ _) (by exact Nat.le_add_left _ _)
 ·refine same_of_ev ?_ F.wf fun k => ?_
  ·exact addL_wf (by rw [S3]; exact N3.wf) _
  ·rw [S3, ev_addL, ev_addL, ev_addL, rs_ev okr.wf.1, rs_ev M1.wf.1, rs_ev M2.wf.1, ev_mulP, ev_mulP, ev_nil, d3.eq k, d2, ev_nil, Tsum_three _ k T fun t ht => (d3.idx ht).1, q0, ms_nil]
   have e1: ([[], a, b]: List Po).getD 1 [] = a := rfl
   have e2: ([[], a, b]: List Po).getD 2 [] = b := rfl
   rw [e1, e2, ← rs_ev (start_facts ha).wf.1, ← rs_ev (start_facts hb).wf.1, ms_comm (qOf T 1), ms_comm (qOf T 2)]
   grind
theorem none_of {o: Od} {f: Po} (hf: StartP f): ∃ fin, Div o f [] fin ∧ SameP fin.rest f := by
 have F := start_facts hf
 obtain ⟨r1, r2⟩ := regS_sum o
 obtain ⟨fin, T, d1, d2, d3⟩ := div_ok (C := 310) (rgS o (G := []) (by simp)) F.okp (start_reg o F) (by have := F.wt; lia) (by exact Nat.le_add_left _ _) (by have := F.len; exact Nat.le_trans ‹_› (by decide)) (by exact Nat.le_trans ‹_› (by decide))
 refine ⟨fin, d1, same_of_ev d3.wfr F.wf fun k => ?_⟩
 have hT: T = [] := by
  cases T with
  | nil => rfl
  | cons t T => have := (d3.idx (.head _)).1; simp at this
 rw [d3.eq k, d2, hT, ev_nil, Tsum_nil]; grind
theorem zero_div (o: Od) {G: List Po} (hG: ∀ g ∈ G, OkP g): Div o [] G ⟨G.map fun uu => [], [], []⟩ := ⟨okP_nil, hG, 0, .stop rfl⟩
theorem prod_reg {f g: Po} (hf: StartF f) (hg: StartF g): ∀ e ∈ prods f g, e.1.1 ≤ 4 ∧ e.1.2 ≤ 4 := fun e he => by
 obtain ⟨x, hx, y, hy, q⟩ := prods_mem he
 have h1 := hf.sm y hy
 have h2 := hg.sm x hx
 unfold SM at h1 h2
 rw [q]; simp only [mP]; lia
inductive Exq (f g F: Po) (c: Fn): Prop
 | mk (fin: DSt) (q0: Po) (d1: Div .lex F [g] fin) (d2: fin.qs[0]? = some q0) (d3: Wf q0) (d4: Wf fin.rest) (d5: ∀ l, lead .lex g = some l → ∀ e ∈ fin.rest, mdiv l.1 e.1 = false) (d6: fin.rest.length ≤ 100000) (d7: ∀ k, ev fin.rest k = ms g (ev (subP f q0)) k + c k)
theorem exact_of {f g: Po} (hf: StartP f) (hg: StartP g) {F: Po} (hF: Sm 10 4 5 F) {c: Fn} (hc: ∀ k, ev F k = ms g (ev f) k + c k) :
  Exq f g F c := by
 have Gf := start_facts hg
 have Ff := start_facts hf
 obtain ⟨r1, r2⟩ := regS_sum .lex
 have rg := rgS .lex (G := [g]) (fun x hx => by rw [List.mem_singleton] at hx; rw [hx]; exact .inr hg)
 have okF := hF.okp (by exact Nat.le_add_left _ _) (by exact Nat.le_add_left _ _) (by exact Nat.le_add_left _ _)
 obtain ⟨fin, T, d1, d2, d3⟩ := div_ok (C := 310) rg okF (fun e he => by
  rw [mem_regS]
  have := hF.box e he
  exact ⟨fun uu => by unfold hh; lia, fun q => absurd rfl q⟩) (by have := hF.wt; lia) (by exact Nat.le_add_left _ _) (by have := hF.len; exact Nat.le_trans ‹_› (by decide)) (by exact Nat.le_add_left _ _)
 have okr := d3.okr rg (by exact Nat.le_add_left _ _) (by have := hF.len; exact Nat.le_trans ‹_› (by decide))
 have wq := (d3.smq rg r2 0).wf
 refine ⟨fin, qOf T 0, d1, by rw [d3.qs]; rfl, wq, okr.wf, fun l hl e he => ?_, okr.len, fun k => ?_⟩
 ·exact fst_none (d3.rR e he).2 (l := l) (by rw [← hl]; simp)
 ·have h1 := d3.eq k
  rw [d2, ev_nil, Tsum_one _ k T fun t ht => (d3.idx ht).1, hc] at h1
  have e1: ([g]: List Po).getD 0 [] = g := rfl
  rw [e1, ← rs_ev Gf.wf.1, ms_comm] at h1
  have e2: ∀ k, ev (subP f (qOf T 0)) k = ev f k - rs (qOf T 0) k := fun k => ev_subP _ _ k
  rw [ms_fn e2, ms_sub]
  grind
theorem exact1_of {f g: Po} (hf: StartP f) (hg: StartP g): ∃ fin q0, Div .lex (mulP f g) [g] fin ∧ fin.rest = [] ∧ fin.qs[0]? = some q0 ∧ SameP q0 f := by
 have Gf := start_facts hg
 have Ff := start_facts hf
 have hF := ((start_sm Ff).mul (start_sm Gf)).mono (A' := 10) (D' := 4) (L' := 5) (by exact Nat.le_add_left _ _) (by exact Nat.le_refl _) (by exact Nat.le_add_left _ _)
 obtain ⟨fin, q0, d1, d2, d3, d4, d5, d6, d7⟩ := exact_of hf hg hF (c := fun uu => 0) (fun k => by rw [ev_mulP, rs_ev Ff.wf.1]; grind)
 obtain ⟨l, hl⟩: ∃ l, lead .lex g = some l := by
  cases q: lead .lex g with
  | none => exact absurd (lead_none.mp q) Gf.ne
  | some l => exact ⟨l, rfl⟩
 have wd := subP_wf Ff.wf q0
 have hd: subP f q0 = [] := by
  cases q: lead .lex (subP f q0) with
  | none => exact lead_none.mp q
  | some ld =>
   exfalso
   have h1 := ms_top wd Gf.wf q hl
   have h2 := d7 (mP l.1 ld.1)
   rw [h1] at h2
   have n1 := Gf.wf.2 _ (lead_mem hl)
   have n2 := wd.2 _ (lead_mem q)
   have h3: ev fin.rest (mP l.1 ld.1) ≠ 0 := by
    rw [h2]
    intro c
    rcases Rat.mul_eq_zero.mp (show l.2 * ld.2 = 0 by grind) with c | c
    ·exact n1 c
    ·exact n2 c
   obtain ⟨c, hc⟩ := ev_ne h3
   have := d5 l hl _ hc
   have h4: mdiv l.1 (mP l.1 ld.1) = true := by rw [mdiv_iff]; simp only [mP]; lia
   rw [h4] at this; cases this
 have zero: ∀ g: Po, ∀ k, ms g (ev []) k = 0 := fun g k => by
  induction g with
  | nil => rfl
  | cons e g ih => rw [ms_cons, ih, ev_nil, sh_zero]; grind
 refine ⟨fin, q0, d1, ev_zero d4 fun k => ?_, d2, same_of_ev d3 Ff.wf fun k => ?_⟩
 ·rw [d7, hd, zero]; grind
 ·have h1 := ev_subP f q0 k
  rw [hd, ev_nil, rs_ev d3.1] at h1
  grind
theorem exact2_of {f g: Po} (hf: StartP f) (hg: StartP g): ∃ fin q0, Div .lex (addL (mulP f g) [((0, 0), 1)]) [g] fin ∧ fin.rest.length ≤ 100000 ∧ fin.qs[0]? = some q0 ∧ (fin.rest = [] ↔ g.map (·.1) = [(0, 0)]) := by
 have Gf := start_facts hg
 have Ff := start_facts hf
 have s1: Sm 1 4 1 [((0, 0), (1: Rat))] := ⟨⟨by simp, by simp⟩, by rw [wt_cons, wt_nil, sz_one]; exact Nat.le_refl _, by simp, by simp⟩
 have hF := (((start_sm Ff).mul (start_sm Gf)).mono (A' := 9) (D' := 4) (L' := 4) (by exact Nat.le_refl _) (by exact Nat.le_refl _) (by exact Nat.le_refl _)).add s1
 obtain ⟨fin, q0, d1, d2, d3, d4, d5, d6, d7⟩ := exact_of hf hg hF (c := fun k => if (0, 0) = k then 1 else 0) (fun k => by
  rw [ev_addL, ev_mulP, rs_ev Ff.wf.1, rs_cons, rs_nil]; grind)
 obtain ⟨l, hl⟩: ∃ l, lead .lex g = some l := by
  cases q: lead .lex g with
  | none => exact absurd (lead_none.mp q) Gf.ne
  | some l => exact ⟨l, rfl⟩
 have wd := subP_wf Ff.wf q0
 have n1 := Gf.wf.2 _ (lead_mem hl)
 refine ⟨fin, q0, d1, d6, d2, fun hr => ?_, fun hk => ?_⟩
 ·have l0: l.1 = (0, 0) := by
   rw [hr] at d7
   cases q: lead .lex (subP f q0) with
   | none =>
    exfalso
    have hd := lead_none.mp q
    have zero: ∀ g: Po, ∀ k, ms g (ev []) k = 0 := fun g k => by
     induction g with
     | nil => rfl
     | cons e g ih => rw [ms_cons, ih, ev_nil, sh_zero]; grind
    have := d7 (0, 0)
    rw [hd, zero, ev_nil, if_pos rfl] at this
    have h9: (0: Rat) = 0 + 1 := this
    exact absurd h9 (by grind)
   | some ld =>
    have h1 := ms_top wd Gf.wf q hl
    have h2 := d7 (mP l.1 ld.1)
    have n2 := wd.2 _ (lead_mem q)
    rw [h1, ev_nil] at h2
    by_cases c: ((0, 0): Mo) = mP l.1 ld.1
    ·rw [mo_eq] at c ⊢
     simp only [mP] at c ⊢
     lia
    ·exfalso
     rw [if_neg c] at h2
     rcases Rat.mul_eq_zero.mp (show l.2 * ld.2 = 0 by grind) with c | c
     ·exact n1 c
     ·exact n2 c
  have all: ∀ e ∈ g, e.1 = (0, 0) := fun e he => by
   have := lead_max hl e he
   rw [lex_lt, l0] at this
   rw [mo_eq]; simp only at this ⊢; lia
  have hn := Gf.wf.1
  have hne := Gf.ne
  clear d1 d2 d3 d4 d5 d6 d7 hr l0 hl n1 wd hF Gf Ff hg
  cases g with
  | nil => exact absurd rfl hne
  | cons x r =>
   cases r with
   | nil => rw [List.map_cons, all x (.head _)]; rfl
   | cons y r =>
    exfalso
    simp only [List.map_cons, List.nodup_cons, List.mem_cons] at hn
    exact hn.1 (.inl ((all x (.head _)).trans (all y (.tail _ (.head _))).symm))
 ·cases hr: fin.rest with
  | nil => rfl
  | cons e r =>
   exfalso
   have h1 := d5 l hl e (by rw [hr]; exact .head _)
   have h2: l.1 = (0, 0) := by
    have := List.mem_map_of_mem (f := (·.1)) (lead_mem hl)
    rw [hk] at this
    simpa using this
   have h3: mdiv l.1 e.1 = true := by rw [mdiv_iff, h2]; simp
   rw [h3] at h1; cases h1
end Mine.Internal.Pl
end
section
namespace Mine.Internal.Pl
theorem inOk_of {o: Od} {p: Po} (h: OkP p) (hne: p ≠ []): InOk o p := by
 obtain ⟨m1, uu, uu, uu, uu⟩ := monic_facts (o := o) h.wf hne
 refine ⟨h, hne, m1.wf.1, fun q => ?_⟩
 have := m1.mem
 rw [q] at this; cases this
theorem mono_ok (c: Mo) (h: c.1 ≤ 200 ∧ c.2 ≤ 200): OkP [(c, 1)] :=
 okP_of ⟨by simp, by simp⟩ (fun e he => by rw [List.mem_singleton] at he; rw [he]; simp only [sz_one]; exact Nat.zero_le _) (fun e he => by rw [List.mem_singleton] at he; rw [he]; exact h) (by simp)
theorem inv_one: (1: Rat)⁻¹ = 1 := by grind
theorem mono_monic (o: Od) (a b: Nat): monicP o (mono1 a b) = mono1 a b := by
 show scaleP (mono1 a b) (1: Rat)⁻¹ = _
 rw [inv_one]
 unfold scaleP
 rw [if_neg (by decide)]
 simp [mono1]
theorem mono_lead (o: Od) (a b: Nat): lead o (mono1 a b) = some ((a, b), 1) := rfl
theorem init_two (o: Od) (a b c d: Nat): gInit o [mono1 a b, mono1 c d] = ⟨[mono1 a b, mono1 c d], [(a, b), (c, d)], [(0, 1)], 0⟩ := by
 unfold gInit
 simp only [List.map_cons, List.map_nil, mono_monic]
 rfl
theorem least_one (o: Od) (ls: List Mo) (p: Pr): leastP o ls [p] = some p := rfl
theorem rem_one (p: Pr): rem1 [p] p = [] := by simp [rem1]
theorem need_two (a b c d: Nat): needless (0, 1) [] [(a, b), (c, d)] = apart (a, b) (c, d) := by
 simp [needless, leadAt, anyAt, chained]
theorem apart_false {a b c d: Nat} (h: min a c + min b d ≠ 0): apart (a, b) (c, d) = false := by
 cases q: apart (a, b) (c, d) with
 | false => rfl
 | true => exact absurd (apart_iff.mp q) h
theorem run_limit (o: Od) (x y: Nat): ∃ n, GRun o 0 n (gInit o [mono1 (1 + x) 1, mono1 (1 + y) 0]) none := by
 rw [init_two]
 refine ⟨0, .limit (p := (0, 1)) rfl ?_ (by simp)⟩
 simp only [rem_one, need_two]
 exact apart_false (by lia)
theorem run_apart (o: Od): ∃ n, GRun o 0 n (gInit o [mono1 2 0, mono1 0 3]) (some [mono1 2 0, mono1 0 3]) := by
 rw [init_two]
 refine ⟨1, .step (.skip (p := (0, 1)) rfl ?_) (.stop ?_)⟩
 ·simp only [rem_one, need_two]; rfl
 ·simp only [rem_one]
theorem max_le2 {a b: Nat} (ha: a ≤ 100) (hb: b ≤ 100): a + (max a b - a) ≤ 200 := by
 rw [Nat.add_sub_cancel' (Nat.le_max_left ..)]; exact Nat.le_trans (Nat.max_le.mpr ⟨ha, hb⟩) (by decide)
theorem max_le2' {a b: Nat} (ha: a ≤ 100) (hb: b ≤ 100): b + (max a b - b) ≤ 200 := by
 rw [Nat.add_sub_cancel' (Nat.le_max_right ..)]; exact Nat.le_trans (Nat.max_le.mpr ⟨ha, hb⟩) (by decide)
theorem spoly_mono (a b c d: Nat): spoly (mono1 a b) (mono1 c d) ((a, b), 1) ((c, d), 1) = [] := by
 unfold spoly
 simp only [inv_one, shift_one]
 have e1: mP (a, b) (mM (mjoin (a, b) (c, d)) (a, b)) = mjoin (a, b) (c, d) := mo_eq.mpr ⟨Nat.add_sub_cancel' (Nat.le_max_left ..), Nat.add_sub_cancel' (Nat.le_max_left ..)⟩
 have e2: mP (c, d) (mM (mjoin (a, b) (c, d)) (c, d)) = mjoin (a, b) (c, d) := mo_eq.mpr ⟨Nat.add_sub_cancel' (Nat.le_max_right ..), Nat.add_sub_cancel' (Nat.le_max_right ..)⟩
 simp only [mono1, List.map_cons, List.map_nil, e1, e2]
 generalize mjoin (a, b) (c, d) = m
 have z: (1: Rat) + -1 = 0 := by grind
 simp [subP, negP, addL, addT, tot, pg, pd, z]
theorem run_zero (o: Od) {a b c d: Nat} (h: min a c + min b d ≠ 0) (ha: a ≤ 100) (hb: b ≤ 100) (hc: c ≤ 100) (hd: d ≤ 100): ∃ n, GRun o 1 n (gInit o [mono1 a b, mono1 c d]) (some [mono1 a b, mono1 c d]) := by
 rw [init_two]
 have ok1: OkP (mono1 a b) := mono_ok _ (by simp only; lia)
 have ok2: OkP (mono1 c d) := mono_ok _ (by simp only; lia)
 refine ⟨1, .step (.zero (p := (0, 1)) (f := mono1 a b) (g := mono1 c d) rfl ?_ (by simp) rfl rfl (mono_lead o a b) (mono_lead o c d) ok1 ok2 ?_ ?_ (fin := ⟨[mono1 a b, mono1 c d].map fun uu => [], [], []⟩) ?_ rfl) (.stop ?_)⟩
 ·simp only [rem_one, need_two]
  exact apart_false h
 ·simp only [inv_one, shift_one]
  exact mono_ok _ ⟨max_le2 ha hc, max_le2 hb hd⟩
 ·simp only [inv_one, shift_one]
  exact mono_ok _ ⟨max_le2' ha hc, max_le2' hb hd⟩
 ·rw [spoly_mono]
  exact zero_div o fun g hg => by
   simp only [List.mem_cons, List.not_mem_nil, or_false] at hg
   rcases hg with rfl | rfl
   ·exact ok1
   ·exact ok2
 ·simp only [rem_one]
theorem lawOk (o: Od) (ps: List Po) (f g: Po) (hn: ps.length = 2 ∨ ps.length = 3) (hps: ∀ p ∈ ps, StartP p) (hf: StartP f) (hg: ps[0]? = some g): LawOk o ps f g := by
 have sg := hps g (List.mem_of_getElem? hg)
 have Gf := start_facts sg
 have Ff := start_facts hf
 obtain ⟨F⟩ := bound_start (o := o) (ps := ps) (by lia) (by lia) hps
 have okps: ∀ p ∈ ps, OkP p := fun p hp => (start_facts (hps p hp)).okp
 have M := (start_sm Ff).mul (start_sm Gf)
 refine {
  inps := fun p hp => inOk_of (okps p hp) (start_facts (hps p hp)).ne
  okf := Ff.okp
  bound := bound_of F fun p hp => ⟨(start_facts (hps p hp)).wf, (start_facts (hps p hp)).ne, (start_facts (hps p hp)).len⟩
  parts := parts_of (by lia) hps hf
  none_ := none_of hf
  zero_ := ⟨_, zero_div o okps, rfl⟩
  exact0 := ⟨_, zero_div .lex (fun x hx => by rw [List.mem_singleton] at hx; rw [hx]; exact Gf.okp), rfl, rfl⟩
  okpair := fun x y hx hy => inOk_of (mono_ok _ (by simp only; lia)) (by simp [mono1])
  pair0 := fun x y uu uu => run_limit o x y
  pair1 := fun x y hx hy => run_zero o (by lia) (by lia) (by exact Nat.le_add_left _ _) (by lia) (by exact Nat.zero_le _)
  pair2 := run_apart o
  mul := (start_sm Ff).mulOk (start_sm Gf) Ff.okp Gf.okp (by exact Nat.le_add_left _ _) (by exact Nat.le_add_left _ _)
  okmul := M.okp (by exact Nat.le_add_left _ _) (by exact Nat.le_add_left _ _) (by exact Nat.le_add_left _ _)
  exact1 := exact1_of hf sg
  exact2 := exact2_of hf sg }
end Mine.Internal.Pl
end
theorem PySem.Challenge.cw_pf0049_01_holds : PySem.Challenge.rw_pf0049_01.Holds :=
 Mine.Internal.holds_of Mine.Internal.Pl.lawOk
