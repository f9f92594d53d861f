import PyProof.Rows.All
import Wide.All
import OpenK.AllK
import Wide.FinOn
import PySem.Challenge.RW_nu0125_01
open PySem PySem.W PyProof.Rows
set_option Elab.async false
set_option maxRecDepth 100000
set_option linter.unusedVariables false
namespace Mine
abbrev S (x : String) : PySem.Str := PySem.Str.ofString x
namespace hd
abbrev kh := PyData.keyHash
abbrev PP : Program := PySem.Challenge.pw_nu0125_01
noncomputable def nthS : List Stmt → Nat → Stmt
  | [], _ => .Pass ⟨0, 0, 0, 0⟩
  | s :: _, 0 => s
  | _ :: l, n + 1 => nthS l n
noncomputable def fArgs : Stmt → Arguments
  | .FunctionDef _ a _ _ _ _ _ _ _ _ => a
  | _ => .mk [] [] none [] [] none []
noncomputable def fBody : Stmt → List Stmt
  | .FunctionDef _ _ b _ _ _ _ _ _ _ => b
  | .ClassDef _ _ _ b _ _ _ _ _ _ _ => b
  | _ => []
noncomputable def fScope : Stmt → Scope
  | .FunctionDef _ _ _ _ _ _ c _ _ _ => c
  | .ClassDef _ _ _ _ _ _ c _ _ _ _ => c
  | _ => ⟨.function, [], false, false, []⟩
noncomputable def st (i : Nat) : Stmt := nthS PP.main.body i
noncomputable def sub (s : Stmt) (i : Nat) : Stmt := nthS (fBody s) i
abbrev en (P : Params) (k : String) (t : Nat) (v : Value) : DictEntry := ⟨kh P (S k), .str (S k) t, v⟩
noncomputable def o_43 : Params → Obj := fun P => ⟨(.type "tuple"), none, (.seq #[] 0), #[]⟩
noncomputable def o_44 : Params → Obj := fun P => ⟨.none, none, (.fields #[]), #[]⟩
noncomputable def o_45 : Params → Obj := fun P => ⟨(.type "code"), none, (.fields #[(.str (S "<module>") 182), (.str (S "<module>") 183), (.str (S "/claim/cut.py") 184), (.int 1 0), (.int 0 0), (.int 0 0), (.int 0 0), (.int 0 0), (.ref 11), (.bool false), (.int 181 0), (.ref 12), .none, .none, .none, .none, (.int 185 0), (.int 1 0), (.str (S "/claim/cut.py") 186)]), #[]⟩
noncomputable def o_46 : Params → Obj := fun P => ⟨(.type "frame"), none, .plain, #[(some (.ref 13)), (some (.ref 3)), (some (.ref 3)), none, (some (.str (S "__main__") 164)), none, (some (.ref 0))]⟩
noncomputable def o_49 : Params → Obj := fun P => ⟨.none, none, (.dict #[en P "type.__subclasses__.Exception.0" 221 (.int 38 0), en P "type.__subclasses__.Exception.n" 222 (.int 1 0)] 2), #[]⟩
noncomputable def o_50 : Params → Obj := fun P => ⟨(.type "dict"), none, (.dict #[en P "__name__" 165 (.str (S "thinstack.errors") 194), en P "__doc__" 166 .none, en P "__package__" 167 .none, en P "__loader__" 168 (.builtin "__main__.__loader__#opaque"), en P "__spec__" 169 .none, en P "__annotations__" 170 (.ref 6), en P "__builtins__" 171 (.ref 4), en P "__file__" 173 (.str (S "/claim/cut.py") 172), en P "__cached__" 174 .none, en P "_wall" 193 (.ref 21), en P "StackError" 224 (.ref 38)] 11), #[]⟩
noncomputable def o_51 : Params → Obj := fun P => ⟨.none, none, (.fields #[(.int 1 0), (.int 0 0), (.ref 20), (.int 5 0), (.int 0 0), (.ref 27)]), #[]⟩
noncomputable def o_54 : Params → Obj := fun P => ⟨(.type "tuple"), none, (.seq #[(.str (S "k") 190)] 0), #[]⟩
noncomputable def o_56 : Params → Obj := fun P => ⟨.none, none, (.func ⟨(S "_wall"), (S "_wall"), (fArgs (st 0)), (.stmts (fBody (st 0))), (fScope (st 0)), 0, [], .none, .none, .none, .none, none, .none, .none, 0⟩), #[]⟩
noncomputable def o_57 : Params → Obj := fun P => ⟨(.type "code"), none, (.fields #[(.str (S "_wall") 187), (.str (S "_wall") 188), (.str (S "/claim/cut.py") 189), (.int 1 0), (.int 1 0), (.int 0 0), (.int 0 0), (.int 3 0), (.ref 15), (.bool true), (.int 181 0), (.ref 16), .none, (.ref 17), (.ref 18), (.ref 19), (.int 191 0), (.int 1 0), (.str (S "/claim/cut.py") 192)]), #[]⟩
noncomputable def o_58 : Params → Obj := fun P => ⟨(.type "function"), none, (.func ⟨(S "_wall"), (S "_wall"), (fArgs (st 0)), (.stmts (fBody (st 0))), (fScope (st 0)), 3, [], .none, .none, .none, (.str (S "__main__") 164), none, (.ref 20), .none, 0⟩), #[]⟩
noncomputable def o_59 : Params → Obj := fun P => ⟨(.type "tuple"), none, (.seq #[(.type "Exception")] 0), #[]⟩
noncomputable def o_60 : Params → Obj := fun P => ⟨(.type "builtin_function_or_method"), none, (.fields #[(.builtin "type.__prepare__"), (.type "type")]), #[]⟩
noncomputable def o_61 : Params → Obj := fun P => ⟨(.type "dict"), none, (.dict #[en P "__module__" 203 (.str (S "thinstack.errors") 194), en P "__qualname__" 205 (.str (S "StackError") 204), en P "__firstlineno__" 207 (.int 5 206), en P "__init__" 215 (.ref 35), en P "__static_attributes__" 217 (.ref 36)] 5), #[]⟩
noncomputable def o_63 : Params → Obj := fun P => ⟨.none, none, (.fields #[(.int 7 0), (.int 4 0), (.ref 34)]), #[]⟩
noncomputable def o_64 : Params → Obj := fun P => ⟨(.type "code"), none, (.fields #[(.str (S "StackError") 198), (.str (S "StackError") 199), (.str (S "/claim/cut.py") 200), (.int 5 0), (.int 0 0), (.int 0 0), (.int 0 0), (.int 0 0), (.ref 25), (.bool false), (.int 181 0), (.ref 26), .none, .none, .none, .none, (.int 201 0), (.int 5 0), (.str (S "/claim/cut.py") 202)]), #[]⟩
noncomputable def o_65 : Params → Obj := fun P => ⟨(.type "frame"), none, .plain, #[(some (.ref 27)), (some (.ref 3)), (some (.ref 24)), none, (some (.str (S "thinstack.errors") 194)), none, (some (.ref 0))]⟩
noncomputable def o_68 : Params → Obj := fun P => ⟨(.type "tuple"), none, (.seq #[(.str (S "self") 211), (.str (S "message") 212)] 0), #[]⟩
noncomputable def o_70 : Params → Obj := fun P => ⟨.none, none, (.func ⟨(S "__init__"), (S "StackError.__init__"), (fArgs (sub (st 2) 0)), (.stmts (fBody (sub (st 2) 0))), (fScope (sub (st 2) 0)), 0, [], .none, .none, .none, .none, none, .none, .none, 0⟩), #[]⟩
noncomputable def o_71 : Params → Obj := fun P => ⟨(.type "code"), none, (.fields #[(.str (S "__init__") 208), (.str (S "StackError.__init__") 209), (.str (S "/claim/cut.py") 210), (.int 7 0), (.int 2 0), (.int 0 0), (.int 0 0), (.int 3 0), (.ref 29), (.bool true), (.int 181 0), (.ref 30), .none, (.ref 31), (.ref 32), (.ref 33), (.int 213 0), (.int 7 0), (.str (S "/claim/cut.py") 214)]), #[]⟩
noncomputable def o_72 : Params → Obj := fun P => ⟨(.type "function"), none, (.func ⟨(S "__init__"), (S "StackError.__init__"), (fArgs (sub (st 2) 0)), (.stmts (fBody (sub (st 2) 0))), (fScope (sub (st 2) 0)), 3, [], .none, .none, .none, (.str (S "thinstack.errors") 194), none, (.ref 34), .none, 0⟩), #[]⟩
noncomputable def o_73 : Params → Obj := fun P => ⟨(.type "tuple"), none, (.seq #[(.str (S "message") 216)] 0), #[]⟩
noncomputable def o_74 : Params → Obj := fun P => ⟨(.type "dict"), none, (.dict #[en P "__module__" 203 (.str (S "thinstack.errors") 194), en P "__firstlineno__" 207 (.int 5 206), en P "__init__" 215 (.ref 35), en P "__static_attributes__" 217 (.ref 36), en P "__weakref__" 219 (.ref 39), en P "__doc__" 220 .none] 3), #[]⟩
noncomputable def o_75 : Params → Obj := fun P => ⟨(.type "type"), none, (.cls ⟨(S "StackError"), [(.type "Exception")], [(.ref 38), (.type "Exception"), (.type "BaseException"), (.type "object")], 37, (S "StackError"), true, [], [], false, none, false⟩), #[(some (.ref 22)), none, (some (.str (S "StackError") 196)), (some (.str (S "StackError") 204)), (some (.builtin "Exception.__new__")), (some (.bool true))]⟩
noncomputable def o_76 : Params → Obj := fun P => ⟨(.type "getset_descriptor"), none, (.fields #[(.str (S "__weakref__") 218), (.ref 38), (.builtin "ExceptionGroup.__weakref__"), .none]), #[]⟩
noncomputable def o_77 : Params → Obj := fun P => ⟨(.type "super"), none, (.fields #[(.ref 38), (.ref 38), (.ref 38)]), #[]⟩
noncomputable def o_78 : Params → Obj := fun P => ⟨(.type "builtin_function_or_method"), none, (.fields #[(.builtin "object.__init_subclass__"), (.ref 38)]), #[]⟩
noncomputable def o_79 : Params → Obj := fun P => ⟨(.type "dict"), none, (.dict #[en P "__name__" 165 (.str (S "thinstack.routes") 241), en P "__doc__" 166 .none, en P "__package__" 167 .none, en P "__loader__" 168 (.builtin "__main__.__loader__#opaque"), en P "__spec__" 169 .none, en P "__annotations__" 170 (.ref 6), en P "__builtins__" 171 (.ref 4), en P "__file__" 173 (.str (S "/claim/cut.py") 172), en P "__cached__" 174 .none, en P "_wall" 193 (.ref 21), en P "StackError" 224 (.ref 38), en P "RouteError" 240 (.ref 51), en P "BITS" 244 (.int 32 243), en P "ALL" 250 (.int 4294967295 249), en P "mask_of" 257 (.ref 60), en P "net_of" 265 (.ref 67), en P "is_in" 274 (.ref 74), en P "is_broadcast" 283 (.ref 81)] 18), #[]⟩
noncomputable def o_80 : Params → Obj := fun P => ⟨.none, none, (.fields #[(.int 1 0), (.int 0 0), (.ref 20), (.int 5 0), (.int 0 0), (.ref 27), (.int 9 0), (.int 0 0), (.ref 47), (.int 14 0), (.int 0 0), (.ref 59), (.int 18 0), (.int 0 0), (.ref 66), (.int 20 0), (.int 0 0), (.ref 73), (.int 22 0), (.int 0 0), (.ref 80)]), #[]⟩
noncomputable def o_81 : Params → Obj := fun P => ⟨(.type "type"), none, (.cls ⟨(S "StackError"), [(.type "Exception")], [(.ref 38), (.type "Exception"), (.type "BaseException"), (.type "object")], 37, (S "StackError"), true, [], [(.ref 51)], false, none, false⟩), #[(some (.ref 22)), none, (some (.str (S "StackError") 196)), (some (.str (S "StackError") 204)), (some (.builtin "Exception.__new__")), (some (.bool true))]⟩
noncomputable def o_82 : Params → Obj := fun P => ⟨(.type "tuple"), none, (.seq #[(.ref 38)] 0), #[]⟩
noncomputable def o_84 : Params → Obj := fun P => ⟨(.type "dict"), none, (.dict #[en P "__module__" 232 (.str (S "thinstack.errors") 194), en P "__qualname__" 234 (.str (S "RouteError") 233), en P "__firstlineno__" 236 (.int 9 235), en P "__static_attributes__" 237 (.ref 49)] 4), #[]⟩
noncomputable def o_87 : Params → Obj := fun P => ⟨(.type "code"), none, (.fields #[(.str (S "RouteError") 227), (.str (S "RouteError") 228), (.str (S "/claim/cut.py") 229), (.int 9 0), (.int 0 0), (.int 0 0), (.int 0 0), (.int 0 0), (.ref 45), (.bool false), (.int 181 0), (.ref 46), .none, .none, .none, .none, (.int 230 0), (.int 9 0), (.str (S "/claim/cut.py") 231)]), #[]⟩
noncomputable def o_88 : Params → Obj := fun P => ⟨(.type "frame"), none, .plain, #[(some (.ref 47)), (some (.ref 3)), (some (.ref 44)), none, (some (.str (S "thinstack.errors") 194)), none, (some (.ref 0))]⟩
noncomputable def o_90 : Params → Obj := fun P => ⟨(.type "dict"), none, (.dict #[en P "__module__" 232 (.str (S "thinstack.errors") 194), en P "__firstlineno__" 236 (.int 9 235), en P "__static_attributes__" 237 (.ref 49), en P "__doc__" 238 .none] 2), #[]⟩
noncomputable def o_91 : Params → Obj := fun P => ⟨(.type "type"), none, (.cls ⟨(S "RouteError"), [(.ref 38)], [(.ref 51), (.ref 38), (.type "Exception"), (.type "BaseException"), (.type "object")], 50, (S "RouteError"), true, [], [], false, none, false⟩), #[(some (.ref 42)), none, (some (.str (S "RouteError") 225)), (some (.str (S "RouteError") 233)), (some (.builtin "Exception.__new__")), (some (.bool true))]⟩
noncomputable def o_92 : Params → Obj := fun P => ⟨(.type "super"), none, (.fields #[(.ref 51), (.ref 51), (.ref 51)]), #[]⟩
noncomputable def o_93 : Params → Obj := fun P => ⟨(.type "builtin_function_or_method"), none, (.fields #[(.builtin "object.__init_subclass__"), (.ref 51)]), #[]⟩
noncomputable def o_96 : Params → Obj := fun P => ⟨(.type "tuple"), none, (.seq #[(.str (S "prefix") 254)] 0), #[]⟩
noncomputable def o_98 : Params → Obj := fun P => ⟨.none, none, (.func ⟨(S "mask_of"), (S "mask_of"), (fArgs (st 7)), (.stmts (fBody (st 7))), (fScope (st 7)), 0, [], .none, .none, .none, .none, none, .none, .none, 0⟩), #[]⟩
noncomputable def o_99 : Params → Obj := fun P => ⟨(.type "code"), none, (.fields #[(.str (S "mask_of") 251), (.str (S "mask_of") 252), (.str (S "/claim/cut.py") 253), (.int 14 0), (.int 1 0), (.int 0 0), (.int 0 0), (.int 3 0), (.ref 54), (.bool true), (.int 181 0), (.ref 55), .none, (.ref 56), (.ref 57), (.ref 58), (.int 255 0), (.int 14 0), (.str (S "/claim/cut.py") 256)]), #[]⟩
noncomputable def o_100 : Params → Obj := fun P => ⟨(.type "function"), none, (.func ⟨(S "mask_of"), (S "mask_of"), (fArgs (st 7)), (.stmts (fBody (st 7))), (fScope (st 7)), 3, [], .none, .none, .none, (.str (S "thinstack.routes") 241), none, (.ref 59), .none, 0⟩), #[]⟩
noncomputable def o_103 : Params → Obj := fun P => ⟨(.type "tuple"), none, (.seq #[(.str (S "address") 261), (.str (S "prefix") 262)] 0), #[]⟩
noncomputable def o_105 : Params → Obj := fun P => ⟨.none, none, (.func ⟨(S "net_of"), (S "net_of"), (fArgs (st 8)), (.stmts (fBody (st 8))), (fScope (st 8)), 0, [], .none, .none, .none, .none, none, .none, .none, 0⟩), #[]⟩
noncomputable def o_106 : Params → Obj := fun P => ⟨(.type "code"), none, (.fields #[(.str (S "net_of") 258), (.str (S "net_of") 259), (.str (S "/claim/cut.py") 260), (.int 18 0), (.int 2 0), (.int 0 0), (.int 0 0), (.int 3 0), (.ref 61), (.bool true), (.int 181 0), (.ref 62), .none, (.ref 63), (.ref 64), (.ref 65), (.int 263 0), (.int 18 0), (.str (S "/claim/cut.py") 264)]), #[]⟩
noncomputable def o_107 : Params → Obj := fun P => ⟨(.type "function"), none, (.func ⟨(S "net_of"), (S "net_of"), (fArgs (st 8)), (.stmts (fBody (st 8))), (fScope (st 8)), 3, [], .none, .none, .none, (.str (S "thinstack.routes") 241), none, (.ref 66), .none, 0⟩), #[]⟩
noncomputable def o_110 : Params → Obj := fun P => ⟨(.type "tuple"), none, (.seq #[(.str (S "address") 269), (.str (S "net") 270), (.str (S "prefix") 271)] 0), #[]⟩
noncomputable def o_112 : Params → Obj := fun P => ⟨.none, none, (.func ⟨(S "is_in"), (S "is_in"), (fArgs (st 9)), (.stmts (fBody (st 9))), (fScope (st 9)), 0, [], .none, .none, .none, .none, none, .none, .none, 0⟩), #[]⟩
noncomputable def o_113 : Params → Obj := fun P => ⟨(.type "code"), none, (.fields #[(.str (S "is_in") 266), (.str (S "is_in") 267), (.str (S "/claim/cut.py") 268), (.int 20 0), (.int 3 0), (.int 0 0), (.int 0 0), (.int 3 0), (.ref 68), (.bool true), (.int 181 0), (.ref 69), .none, (.ref 70), (.ref 71), (.ref 72), (.int 272 0), (.int 20 0), (.str (S "/claim/cut.py") 273)]), #[]⟩
noncomputable def o_114 : Params → Obj := fun P => ⟨(.type "function"), none, (.func ⟨(S "is_in"), (S "is_in"), (fArgs (st 9)), (.stmts (fBody (st 9))), (fScope (st 9)), 3, [], .none, .none, .none, (.str (S "thinstack.routes") 241), none, (.ref 73), .none, 0⟩), #[]⟩
noncomputable def o_117 : Params → Obj := fun P => ⟨(.type "tuple"), none, (.seq #[(.str (S "address") 278), (.str (S "net") 279), (.str (S "prefix") 280)] 0), #[]⟩
noncomputable def o_119 : Params → Obj := fun P => ⟨.none, none, (.func ⟨(S "is_broadcast"), (S "is_broadcast"), (fArgs (st 10)), (.stmts (fBody (st 10))), (fScope (st 10)), 0, [], .none, .none, .none, .none, none, .none, .none, 0⟩), #[]⟩
noncomputable def o_120 : Params → Obj := fun P => ⟨(.type "code"), none, (.fields #[(.str (S "is_broadcast") 275), (.str (S "is_broadcast") 276), (.str (S "/claim/cut.py") 277), (.int 22 0), (.int 3 0), (.int 0 0), (.int 0 0), (.int 3 0), (.ref 75), (.bool true), (.int 181 0), (.ref 76), .none, (.ref 77), (.ref 78), (.ref 79), (.int 281 0), (.int 22 0), (.str (S "/claim/cut.py") 282)]), #[]⟩
noncomputable def o_121 : Params → Obj := fun P => ⟨(.type "function"), none, (.func ⟨(S "is_broadcast"), (S "is_broadcast"), (fArgs (st 10)), (.stmts (fBody (st 10))), (fScope (st 10)), 3, [], .none, .none, .none, (.str (S "thinstack.routes") 241), none, (.ref 80), .none, 0⟩), #[]⟩
noncomputable def o_122 : Params → Obj := fun P => ⟨(.type "dict"), none, (.dict #[en P "__name__" 165 (.str (S "thinstack.routes") 241), en P "__doc__" 166 .none, en P "__package__" 167 .none, en P "__loader__" 168 (.builtin "__main__.__loader__#opaque"), en P "__spec__" 169 .none, en P "__annotations__" 170 (.ref 6), en P "__builtins__" 171 (.ref 4), en P "__file__" 173 (.str (S "/claim/cut.py") 172), en P "__cached__" 174 .none, en P "_wall" 193 (.ref 21), en P "StackError" 224 (.ref 38), en P "RouteError" 240 (.ref 51), en P "BITS" 244 (.int 32 243), en P "ALL" 250 (.int 4294967295 249), en P "mask_of" 257 (.ref 60), en P "net_of" 265 (.ref 67), en P "is_in" 274 (.ref 74), en P "is_broadcast" 283 (.ref 81), en P "Route" 336 (.ref 113)] 19), #[]⟩
noncomputable def o_123 : Params → Obj := fun P => ⟨.none, none, (.fields #[(.int 1 0), (.int 0 0), (.ref 20), (.int 5 0), (.int 0 0), (.ref 27), (.int 9 0), (.int 0 0), (.ref 47), (.int 14 0), (.int 0 0), (.ref 59), (.int 18 0), (.int 0 0), (.ref 66), (.int 20 0), (.int 0 0), (.ref 73), (.int 22 0), (.int 0 0), (.ref 80), (.int 28 0), (.int 0 0), (.ref 87)]), #[]⟩
noncomputable def o_126 : Params → Obj := fun P => ⟨(.type "dict"), none, (.dict #[en P "__module__" 291 (.str (S "thinstack.routes") 241), en P "__qualname__" 293 (.str (S "Route") 292), en P "__firstlineno__" 295 (.int 28 294), en P "__init__" 308 (.ref 96), en P "next_address" 316 (.ref 103), en P "row" 323 (.ref 110), en P "__static_attributes__" 329 (.ref 111)] 7), #[]⟩
noncomputable def o_128 : Params → Obj := fun P => ⟨.none, none, (.fields #[(.int 30 0), (.int 4 0), (.ref 95), (.int 37 0), (.int 4 0), (.ref 102), (.int 40 0), (.int 4 0), (.ref 109)]), #[]⟩
noncomputable def o_129 : Params → Obj := fun P => ⟨(.type "code"), none, (.fields #[(.str (S "Route") 286), (.str (S "Route") 287), (.str (S "/claim/cut.py") 288), (.int 28 0), (.int 0 0), (.int 0 0), (.int 0 0), (.int 0 0), (.ref 85), (.bool false), (.int 181 0), (.ref 86), .none, .none, .none, .none, (.int 289 0), (.int 28 0), (.str (S "/claim/cut.py") 290)]), #[]⟩
noncomputable def o_130 : Params → Obj := fun P => ⟨(.type "frame"), none, .plain, #[(some (.ref 87)), (some (.ref 3)), (some (.ref 84)), none, (some (.str (S "thinstack.routes") 241)), none, (some (.ref 0))]⟩
noncomputable def o_131 : Params → Obj := fun P => ⟨(.type "tuple"), none, (.seq #[(.int 0 296)] 0), #[]⟩
noncomputable def o_134 : Params → Obj := fun P => ⟨(.type "tuple"), none, (.seq #[(.str (S "self") 300), (.str (S "net") 301), (.str (S "prefix") 302), (.str (S "gateway") 303), (.str (S "face") 304), (.str (S "metric") 305)] 0), #[]⟩
noncomputable def o_136 : Params → Obj := fun P => ⟨.none, none, (.func ⟨(S "__init__"), (S "Route.__init__"), (fArgs (sub (st 11) 0)), (.stmts (fBody (sub (st 11) 0))), (fScope (sub (st 11) 0)), 0, [], .none, .none, .none, .none, none, .none, .none, 0⟩), #[]⟩
noncomputable def o_137 : Params → Obj := fun P => ⟨(.type "code"), none, (.fields #[(.str (S "__init__") 297), (.str (S "Route.__init__") 298), (.str (S "/claim/cut.py") 299), (.int 30 0), (.int 6 0), (.int 0 0), (.int 0 0), (.int 3 0), (.ref 90), (.bool true), (.int 181 0), (.ref 91), .none, (.ref 92), (.ref 93), (.ref 94), (.int 306 0), (.int 30 0), (.str (S "/claim/cut.py") 307)]), #[]⟩
noncomputable def o_138 : Params → Obj := fun P => ⟨(.type "function"), none, (.func ⟨(S "__init__"), (S "Route.__init__"), (fArgs (sub (st 11) 0)), (.stmts (fBody (sub (st 11) 0))), (fScope (sub (st 11) 0)), 3, [], (.ref 89), .none, .none, (.str (S "thinstack.routes") 241), none, (.ref 95), .none, 0⟩), #[]⟩
noncomputable def o_141 : Params → Obj := fun P => ⟨(.type "tuple"), none, (.seq #[(.str (S "self") 312), (.str (S "target") 313)] 0), #[]⟩
noncomputable def o_143 : Params → Obj := fun P => ⟨.none, none, (.func ⟨(S "next_address"), (S "Route.next_address"), (fArgs (sub (st 11) 1)), (.stmts (fBody (sub (st 11) 1))), (fScope (sub (st 11) 1)), 0, [], .none, .none, .none, .none, none, .none, .none, 0⟩), #[]⟩
noncomputable def o_144 : Params → Obj := fun P => ⟨(.type "code"), none, (.fields #[(.str (S "next_address") 309), (.str (S "Route.next_address") 310), (.str (S "/claim/cut.py") 311), (.int 37 0), (.int 2 0), (.int 0 0), (.int 0 0), (.int 3 0), (.ref 97), (.bool true), (.int 181 0), (.ref 98), .none, (.ref 99), (.ref 100), (.ref 101), (.int 314 0), (.int 37 0), (.str (S "/claim/cut.py") 315)]), #[]⟩
noncomputable def o_145 : Params → Obj := fun P => ⟨(.type "function"), none, (.func ⟨(S "next_address"), (S "Route.next_address"), (fArgs (sub (st 11) 1)), (.stmts (fBody (sub (st 11) 1))), (fScope (sub (st 11) 1)), 3, [], .none, .none, .none, (.str (S "thinstack.routes") 241), none, (.ref 102), .none, 0⟩), #[]⟩
noncomputable def o_148 : Params → Obj := fun P => ⟨(.type "tuple"), none, (.seq #[(.str (S "self") 320)] 0), #[]⟩
noncomputable def o_150 : Params → Obj := fun P => ⟨.none, none, (.func ⟨(S "row"), (S "Route.row"), (fArgs (sub (st 11) 2)), (.stmts (fBody (sub (st 11) 2))), (fScope (sub (st 11) 2)), 0, [], .none, .none, .none, .none, none, .none, .none, 0⟩), #[]⟩
noncomputable def o_151 : Params → Obj := fun P => ⟨(.type "code"), none, (.fields #[(.str (S "row") 317), (.str (S "Route.row") 318), (.str (S "/claim/cut.py") 319), (.int 40 0), (.int 1 0), (.int 0 0), (.int 0 0), (.int 3 0), (.ref 104), (.bool true), (.int 181 0), (.ref 105), .none, (.ref 106), (.ref 107), (.ref 108), (.int 321 0), (.int 40 0), (.str (S "/claim/cut.py") 322)]), #[]⟩
noncomputable def o_152 : Params → Obj := fun P => ⟨(.type "function"), none, (.func ⟨(S "row"), (S "Route.row"), (fArgs (sub (st 11) 2)), (.stmts (fBody (sub (st 11) 2))), (fScope (sub (st 11) 2)), 3, [], .none, .none, .none, (.str (S "thinstack.routes") 241), none, (.ref 109), .none, 0⟩), #[]⟩
noncomputable def o_153 : Params → Obj := fun P => ⟨(.type "tuple"), none, (.seq #[(.str (S "face") 324), (.str (S "gateway") 325), (.str (S "metric") 326), (.str (S "net") 327), (.str (S "prefix") 328)] 0), #[]⟩
noncomputable def o_154 : Params → Obj := fun P => ⟨(.type "dict"), none, (.dict #[en P "__module__" 291 (.str (S "thinstack.routes") 241), en P "__firstlineno__" 295 (.int 28 294), en P "__init__" 308 (.ref 96), en P "next_address" 316 (.ref 103), en P "row" 323 (.ref 110), en P "__static_attributes__" 329 (.ref 111), en P "__dict__" 331 (.ref 114), en P "__weakref__" 333 (.ref 115), en P "__doc__" 334 .none] 4), #[]⟩
noncomputable def o_155 : Params → Obj := fun P => ⟨(.type "type"), none, (.cls ⟨(S "Route"), [(.type "object")], [(.ref 113), (.type "object")], 112, (S "Route"), true, [], [], false, none, false⟩), #[none, none, (some (.str (S "Route") 284)), (some (.str (S "Route") 292)), (some (.builtin "object.__new__")), (some (.bool true))]⟩
noncomputable def o_156 : Params → Obj := fun P => ⟨(.type "getset_descriptor"), none, (.fields #[(.str (S "__dict__") 330), (.ref 113), (.builtin "function.__dict__"), (.builtin "function.__dict__#set")]), #[]⟩
noncomputable def o_157 : Params → Obj := fun P => ⟨(.type "getset_descriptor"), none, (.fields #[(.str (S "__weakref__") 332), (.ref 113), (.builtin "ExceptionGroup.__weakref__"), .none]), #[]⟩
noncomputable def o_158 : Params → Obj := fun P => ⟨(.type "super"), none, (.fields #[(.ref 113), (.ref 113), (.ref 113)]), #[]⟩
noncomputable def o_159 : Params → Obj := fun P => ⟨(.type "builtin_function_or_method"), none, (.fields #[(.builtin "object.__init_subclass__"), (.ref 113)]), #[]⟩
noncomputable def o_160 : Params → Obj := fun P => ⟨(.type "dict"), none, (.dict #[en P "__name__" 165 (.str (S "thinstack.routes") 241), en P "__doc__" 166 .none, en P "__package__" 167 .none, en P "__loader__" 168 (.builtin "__main__.__loader__#opaque"), en P "__spec__" 169 .none, en P "__annotations__" 170 (.ref 6), en P "__builtins__" 171 (.ref 4), en P "__file__" 173 (.str (S "/claim/cut.py") 172), en P "__cached__" 174 .none, en P "_wall" 193 (.ref 21), en P "StackError" 224 (.ref 38), en P "RouteError" 240 (.ref 51), en P "BITS" 244 (.int 32 243), en P "ALL" 250 (.int 4294967295 249), en P "mask_of" 257 (.ref 60), en P "net_of" 265 (.ref 67), en P "is_in" 274 (.ref 74), en P "is_broadcast" 283 (.ref 81), en P "Route" 336 (.ref 113), en P "Branch" 399 (.ref 162), en P "bit_at" 407 (.ref 173)] 21), #[]⟩
noncomputable def o_161 : Params → Obj := fun P => ⟨.none, none, (.fields #[(.int 1 0), (.int 0 0), (.ref 20), (.int 5 0), (.int 0 0), (.ref 27), (.int 9 0), (.int 0 0), (.ref 47), (.int 14 0), (.int 0 0), (.ref 59), (.int 18 0), (.int 0 0), (.ref 66), (.int 20 0), (.int 0 0), (.ref 73), (.int 22 0), (.int 0 0), (.ref 80), (.int 28 0), (.int 0 0), (.ref 87), (.int 42 0), (.int 0 0), (.ref 123), (.int 69 0), (.int 0 0), (.ref 172)]), #[]⟩
noncomputable def o_164 : Params → Obj := fun P => ⟨(.type "dict"), none, (.dict #[en P "__module__" 344 (.str (S "thinstack.routes") 241), en P "__qualname__" 346 (.str (S "Branch") 345), en P "__firstlineno__" 348 (.int 42 347), en P "__init__" 355 (.ref 131), en P "child" 363 (.ref 138), en P "set_child" 372 (.ref 145), en P "is_bare" 379 (.ref 152), en P "best" 388 (.ref 159), en P "__static_attributes__" 392 (.ref 160)] 9), #[]⟩
noncomputable def o_166 : Params → Obj := fun P => ⟨.none, none, (.fields #[(.int 44 0), (.int 4 0), (.ref 130), (.int 49 0), (.int 4 0), (.ref 137), (.int 54 0), (.int 4 0), (.ref 144), (.int 60 0), (.int 4 0), (.ref 151), (.int 63 0), (.int 4 0), (.ref 158)]), #[]⟩
noncomputable def o_167 : Params → Obj := fun P => ⟨(.type "code"), none, (.fields #[(.str (S "Branch") 339), (.str (S "Branch") 340), (.str (S "/claim/cut.py") 341), (.int 42 0), (.int 0 0), (.int 0 0), (.int 0 0), (.int 0 0), (.ref 121), (.bool false), (.int 181 0), (.ref 122), .none, .none, .none, .none, (.int 342 0), (.int 42 0), (.str (S "/claim/cut.py") 343)]), #[]⟩
noncomputable def o_168 : Params → Obj := fun P => ⟨(.type "frame"), none, .plain, #[(some (.ref 123)), (some (.ref 3)), (some (.ref 120)), none, (some (.str (S "thinstack.routes") 241)), none, (some (.ref 0))]⟩
noncomputable def o_171 : Params → Obj := fun P => ⟨(.type "tuple"), none, (.seq #[(.str (S "self") 352)] 0), #[]⟩
noncomputable def o_173 : Params → Obj := fun P => ⟨.none, none, (.func ⟨(S "__init__"), (S "Branch.__init__"), (fArgs (sub (st 12) 0)), (.stmts (fBody (sub (st 12) 0))), (fScope (sub (st 11) 2)), 0, [], .none, .none, .none, .none, none, .none, .none, 0⟩), #[]⟩
noncomputable def o_174 : Params → Obj := fun P => ⟨(.type "code"), none, (.fields #[(.str (S "__init__") 349), (.str (S "Branch.__init__") 350), (.str (S "/claim/cut.py") 351), (.int 44 0), (.int 1 0), (.int 0 0), (.int 0 0), (.int 3 0), (.ref 125), (.bool true), (.int 181 0), (.ref 126), .none, (.ref 127), (.ref 128), (.ref 129), (.int 353 0), (.int 44 0), (.str (S "/claim/cut.py") 354)]), #[]⟩
noncomputable def o_175 : Params → Obj := fun P => ⟨(.type "function"), none, (.func ⟨(S "__init__"), (S "Branch.__init__"), (fArgs (sub (st 12) 0)), (.stmts (fBody (sub (st 12) 0))), (fScope (sub (st 11) 2)), 3, [], .none, .none, .none, (.str (S "thinstack.routes") 241), none, (.ref 130), .none, 0⟩), #[]⟩
noncomputable def o_178 : Params → Obj := fun P => ⟨(.type "tuple"), none, (.seq #[(.str (S "self") 359), (.str (S "bit") 360)] 0), #[]⟩
noncomputable def o_180 : Params → Obj := fun P => ⟨.none, none, (.func ⟨(S "child"), (S "Branch.child"), (fArgs (sub (st 12) 1)), (.stmts (fBody (sub (st 12) 1))), (fScope (sub (st 12) 1)), 0, [], .none, .none, .none, .none, none, .none, .none, 0⟩), #[]⟩
noncomputable def o_181 : Params → Obj := fun P => ⟨(.type "code"), none, (.fields #[(.str (S "child") 356), (.str (S "Branch.child") 357), (.str (S "/claim/cut.py") 358), (.int 49 0), (.int 2 0), (.int 0 0), (.int 0 0), (.int 3 0), (.ref 132), (.bool true), (.int 181 0), (.ref 133), .none, (.ref 134), (.ref 135), (.ref 136), (.int 361 0), (.int 49 0), (.str (S "/claim/cut.py") 362)]), #[]⟩
noncomputable def o_182 : Params → Obj := fun P => ⟨(.type "function"), none, (.func ⟨(S "child"), (S "Branch.child"), (fArgs (sub (st 12) 1)), (.stmts (fBody (sub (st 12) 1))), (fScope (sub (st 12) 1)), 3, [], .none, .none, .none, (.str (S "thinstack.routes") 241), none, (.ref 137), .none, 0⟩), #[]⟩
noncomputable def o_185 : Params → Obj := fun P => ⟨(.type "tuple"), none, (.seq #[(.str (S "self") 367), (.str (S "bit") 368), (.str (S "branch") 369)] 0), #[]⟩
noncomputable def o_187 : Params → Obj := fun P => ⟨.none, none, (.func ⟨(S "set_child"), (S "Branch.set_child"), (fArgs (sub (st 12) 2)), (.stmts (fBody (sub (st 12) 2))), (fScope (sub (st 12) 2)), 0, [], .none, .none, .none, .none, none, .none, .none, 0⟩), #[]⟩
noncomputable def o_188 : Params → Obj := fun P => ⟨(.type "code"), none, (.fields #[(.str (S "set_child") 364), (.str (S "Branch.set_child") 365), (.str (S "/claim/cut.py") 366), (.int 54 0), (.int 3 0), (.int 0 0), (.int 0 0), (.int 3 0), (.ref 139), (.bool true), (.int 181 0), (.ref 140), .none, (.ref 141), (.ref 142), (.ref 143), (.int 370 0), (.int 54 0), (.str (S "/claim/cut.py") 371)]), #[]⟩
noncomputable def o_189 : Params → Obj := fun P => ⟨(.type "function"), none, (.func ⟨(S "set_child"), (S "Branch.set_child"), (fArgs (sub (st 12) 2)), (.stmts (fBody (sub (st 12) 2))), (fScope (sub (st 12) 2)), 3, [], .none, .none, .none, (.str (S "thinstack.routes") 241), none, (.ref 144), .none, 0⟩), #[]⟩
noncomputable def o_192 : Params → Obj := fun P => ⟨(.type "tuple"), none, (.seq #[(.str (S "self") 376)] 0), #[]⟩
noncomputable def o_194 : Params → Obj := fun P => ⟨.none, none, (.func ⟨(S "is_bare"), (S "Branch.is_bare"), (fArgs (sub (st 12) 3)), (.stmts (fBody (sub (st 12) 3))), (fScope (sub (st 11) 2)), 0, [], .none, .none, .none, .none, none, .none, .none, 0⟩), #[]⟩
noncomputable def o_195 : Params → Obj := fun P => ⟨(.type "code"), none, (.fields #[(.str (S "is_bare") 373), (.str (S "Branch.is_bare") 374), (.str (S "/claim/cut.py") 375), (.int 60 0), (.int 1 0), (.int 0 0), (.int 0 0), (.int 3 0), (.ref 146), (.bool true), (.int 181 0), (.ref 147), .none, (.ref 148), (.ref 149), (.ref 150), (.int 377 0), (.int 60 0), (.str (S "/claim/cut.py") 378)]), #[]⟩
noncomputable def o_196 : Params → Obj := fun P => ⟨(.type "function"), none, (.func ⟨(S "is_bare"), (S "Branch.is_bare"), (fArgs (sub (st 12) 3)), (.stmts (fBody (sub (st 12) 3))), (fScope (sub (st 11) 2)), 3, [], .none, .none, .none, (.str (S "thinstack.routes") 241), none, (.ref 151), .none, 0⟩), #[]⟩
noncomputable def o_199 : Params → Obj := fun P => ⟨(.type "tuple"), none, (.seq #[(.str (S "self") 383), (.str (S "found") 384), (.str (S "route") 385)] 0), #[]⟩
noncomputable def o_201 : Params → Obj := fun P => ⟨.none, none, (.func ⟨(S "best"), (S "Branch.best"), (fArgs (sub (st 12) 4)), (.stmts (fBody (sub (st 12) 4))), (fScope (sub (st 12) 4)), 0, [], .none, .none, .none, .none, none, .none, .none, 0⟩), #[]⟩
noncomputable def o_202 : Params → Obj := fun P => ⟨(.type "code"), none, (.fields #[(.str (S "best") 380), (.str (S "Branch.best") 381), (.str (S "/claim/cut.py") 382), (.int 63 0), (.int 1 0), (.int 0 0), (.int 0 0), (.int 3 0), (.ref 153), (.bool true), (.int 181 0), (.ref 154), .none, (.ref 155), (.ref 156), (.ref 157), (.int 386 0), (.int 63 0), (.str (S "/claim/cut.py") 387)]), #[]⟩
noncomputable def o_203 : Params → Obj := fun P => ⟨(.type "function"), none, (.func ⟨(S "best"), (S "Branch.best"), (fArgs (sub (st 12) 4)), (.stmts (fBody (sub (st 12) 4))), (fScope (sub (st 12) 4)), 3, [], .none, .none, .none, (.str (S "thinstack.routes") 241), none, (.ref 158), .none, 0⟩), #[]⟩
noncomputable def o_204 : Params → Obj := fun P => ⟨(.type "tuple"), none, (.seq #[(.str (S "one") 389), (.str (S "routes") 390), (.str (S "zero") 391)] 0), #[]⟩
noncomputable def o_205 : Params → Obj := fun P => ⟨(.type "dict"), none, (.dict #[en P "__module__" 344 (.str (S "thinstack.routes") 241), en P "__firstlineno__" 348 (.int 42 347), en P "__init__" 355 (.ref 131), en P "child" 363 (.ref 138), en P "set_child" 372 (.ref 145), en P "is_bare" 379 (.ref 152), en P "best" 388 (.ref 159), en P "__static_attributes__" 392 (.ref 160), en P "__dict__" 394 (.ref 163), en P "__weakref__" 396 (.ref 164), en P "__doc__" 397 .none] 4), #[]⟩
noncomputable def o_206 : Params → Obj := fun P => ⟨(.type "type"), none, (.cls ⟨(S "Branch"), [(.type "object")], [(.ref 162), (.type "object")], 161, (S "Branch"), true, [], [], false, none, false⟩), #[none, none, (some (.str (S "Branch") 337)), (some (.str (S "Branch") 345)), (some (.builtin "object.__new__")), (some (.bool true))]⟩
noncomputable def o_207 : Params → Obj := fun P => ⟨(.type "getset_descriptor"), none, (.fields #[(.str (S "__dict__") 393), (.ref 162), (.builtin "function.__dict__"), (.builtin "function.__dict__#set")]), #[]⟩
noncomputable def o_208 : Params → Obj := fun P => ⟨(.type "getset_descriptor"), none, (.fields #[(.str (S "__weakref__") 395), (.ref 162), (.builtin "ExceptionGroup.__weakref__"), .none]), #[]⟩
noncomputable def o_209 : Params → Obj := fun P => ⟨(.type "super"), none, (.fields #[(.ref 162), (.ref 162), (.ref 162)]), #[]⟩
noncomputable def o_210 : Params → Obj := fun P => ⟨(.type "builtin_function_or_method"), none, (.fields #[(.builtin "object.__init_subclass__"), (.ref 162)]), #[]⟩
noncomputable def o_213 : Params → Obj := fun P => ⟨(.type "tuple"), none, (.seq #[(.str (S "address") 403), (.str (S "place") 404)] 0), #[]⟩
noncomputable def o_215 : Params → Obj := fun P => ⟨.none, none, (.func ⟨(S "bit_at"), (S "bit_at"), (fArgs (st 13)), (.stmts (fBody (st 13))), (fScope (st 13)), 0, [], .none, .none, .none, .none, none, .none, .none, 0⟩), #[]⟩
noncomputable def o_216 : Params → Obj := fun P => ⟨(.type "code"), none, (.fields #[(.str (S "bit_at") 400), (.str (S "bit_at") 401), (.str (S "/claim/cut.py") 402), (.int 69 0), (.int 2 0), (.int 0 0), (.int 0 0), (.int 3 0), (.ref 167), (.bool true), (.int 181 0), (.ref 168), .none, (.ref 169), (.ref 170), (.ref 171), (.int 405 0), (.int 69 0), (.str (S "/claim/cut.py") 406)]), #[]⟩
noncomputable def o_217 : Params → Obj := fun P => ⟨(.type "function"), none, (.func ⟨(S "bit_at"), (S "bit_at"), (fArgs (st 13)), (.stmts (fBody (st 13))), (fScope (st 13)), 3, [], .none, .none, .none, (.str (S "thinstack.routes") 241), none, (.ref 172), .none, 0⟩), #[]⟩
noncomputable def o_218 : Params → Obj := fun P => ⟨(.type "dict"), none, (.dict #[en P "__name__" 165 (.str (S "thinstack.routes") 241), en P "__doc__" 166 .none, en P "__package__" 167 .none, en P "__loader__" 168 (.builtin "__main__.__loader__#opaque"), en P "__spec__" 169 .none, en P "__annotations__" 170 (.ref 6), en P "__builtins__" 171 (.ref 4), en P "__file__" 173 (.str (S "/claim/cut.py") 172), en P "__cached__" 174 .none, en P "_wall" 193 (.ref 21), en P "StackError" 224 (.ref 38), en P "RouteError" 240 (.ref 51), en P "BITS" 244 (.int 32 243), en P "ALL" 250 (.int 4294967295 249), en P "mask_of" 257 (.ref 60), en P "net_of" 265 (.ref 67), en P "is_in" 274 (.ref 74), en P "is_broadcast" 283 (.ref 81), en P "Route" 336 (.ref 113), en P "Branch" 399 (.ref 162), en P "bit_at" 407 (.ref 173), en P "Routes" 517 (.ref 244)] 22), #[]⟩
noncomputable def o_219 : Params → Obj := fun P => ⟨.none, none, (.fields #[(.int 1 0), (.int 0 0), (.ref 20), (.int 5 0), (.int 0 0), (.ref 27), (.int 9 0), (.int 0 0), (.ref 47), (.int 14 0), (.int 0 0), (.ref 59), (.int 18 0), (.int 0 0), (.ref 66), (.int 20 0), (.int 0 0), (.ref 73), (.int 22 0), (.int 0 0), (.ref 80), (.int 28 0), (.int 0 0), (.ref 87), (.int 42 0), (.int 0 0), (.ref 123), (.int 69 0), (.int 0 0), (.ref 172), (.int 71 0), (.int 0 0), (.ref 179)]), #[]⟩
noncomputable def o_222 : Params → Obj := fun P => ⟨(.type "dict"), none, (.dict #[en P "__module__" 415 (.str (S "thinstack.routes") 241), en P "__qualname__" 417 (.str (S "Routes") 416), en P "__firstlineno__" 419 (.int 71 418), en P "__init__" 426 (.ref 187), en P "size" 433 (.ref 194), en P "path" 447 (.ref 201), en P "add" 459 (.ref 208), en P "remove" 470 (.ref 215), en P "remove_face" 476 (.ref 220), en P "prune" 486 (.ref 227), en P "find" 497 (.ref 234), en P "rows" 507 (.ref 241), en P "__static_attributes__" 510 (.ref 242)] 13), #[]⟩
noncomputable def o_224 : Params → Obj := fun P => ⟨.none, none, (.fields #[(.int 73 0), (.int 4 0), (.ref 186), (.int 77 0), (.int 4 0), (.ref 193), (.int 80 0), (.int 4 0), (.ref 200), (.int 93 0), (.int 4 0), (.ref 207), (.int 108 0), (.int 4 0), (.ref 214), (.int 119 0), (.int 4 0), (.ref 219), (.int 130 0), (.int 4 0), (.ref 226), (.int 136 0), (.int 4 0), (.ref 233), (.int 147 0), (.int 4 0), (.ref 240)]), #[]⟩
noncomputable def o_225 : Params → Obj := fun P => ⟨(.type "code"), none, (.fields #[(.str (S "Routes") 410), (.str (S "Routes") 411), (.str (S "/claim/cut.py") 412), (.int 71 0), (.int 0 0), (.int 0 0), (.int 0 0), (.int 0 0), (.ref 177), (.bool false), (.int 181 0), (.ref 178), .none, .none, .none, .none, (.int 413 0), (.int 71 0), (.str (S "/claim/cut.py") 414)]), #[]⟩
noncomputable def o_226 : Params → Obj := fun P => ⟨(.type "frame"), none, .plain, #[(some (.ref 179)), (some (.ref 3)), (some (.ref 176)), none, (some (.str (S "thinstack.routes") 241)), none, (some (.ref 0))]⟩
noncomputable def o_229 : Params → Obj := fun P => ⟨(.type "tuple"), none, (.seq #[(.str (S "self") 423)] 0), #[]⟩
noncomputable def o_231 : Params → Obj := fun P => ⟨.none, none, (.func ⟨(S "__init__"), (S "Routes.__init__"), (fArgs (sub (st 14) 0)), (.stmts (fBody (sub (st 14) 0))), (fScope (sub (st 14) 0)), 0, [], .none, .none, .none, .none, none, .none, .none, 0⟩), #[]⟩
noncomputable def o_232 : Params → Obj := fun P => ⟨(.type "code"), none, (.fields #[(.str (S "__init__") 420), (.str (S "Routes.__init__") 421), (.str (S "/claim/cut.py") 422), (.int 73 0), (.int 1 0), (.int 0 0), (.int 0 0), (.int 3 0), (.ref 181), (.bool true), (.int 181 0), (.ref 182), .none, (.ref 183), (.ref 184), (.ref 185), (.int 424 0), (.int 73 0), (.str (S "/claim/cut.py") 425)]), #[]⟩
noncomputable def o_233 : Params → Obj := fun P => ⟨(.type "function"), none, (.func ⟨(S "__init__"), (S "Routes.__init__"), (fArgs (sub (st 14) 0)), (.stmts (fBody (sub (st 14) 0))), (fScope (sub (st 14) 0)), 3, [], .none, .none, .none, (.str (S "thinstack.routes") 241), none, (.ref 186), .none, 0⟩), #[]⟩
noncomputable def o_236 : Params → Obj := fun P => ⟨(.type "tuple"), none, (.seq #[(.str (S "self") 430)] 0), #[]⟩
noncomputable def o_238 : Params → Obj := fun P => ⟨.none, none, (.func ⟨(S "size"), (S "Routes.size"), (fArgs (sub (st 14) 1)), (.stmts (fBody (sub (st 14) 1))), (fScope (sub (st 11) 2)), 0, [], .none, .none, .none, .none, none, .none, .none, 0⟩), #[]⟩
noncomputable def o_239 : Params → Obj := fun P => ⟨(.type "code"), none, (.fields #[(.str (S "size") 427), (.str (S "Routes.size") 428), (.str (S "/claim/cut.py") 429), (.int 77 0), (.int 1 0), (.int 0 0), (.int 0 0), (.int 3 0), (.ref 188), (.bool true), (.int 181 0), (.ref 189), .none, (.ref 190), (.ref 191), (.ref 192), (.int 431 0), (.int 77 0), (.str (S "/claim/cut.py") 432)]), #[]⟩
noncomputable def o_240 : Params → Obj := fun P => ⟨(.type "function"), none, (.func ⟨(S "size"), (S "Routes.size"), (fArgs (sub (st 14) 1)), (.stmts (fBody (sub (st 14) 1))), (fScope (sub (st 11) 2)), 3, [], .none, .none, .none, (.str (S "thinstack.routes") 241), none, (.ref 193), .none, 0⟩), #[]⟩
noncomputable def o_243 : Params → Obj := fun P => ⟨(.type "tuple"), none, (.seq #[(.str (S "self") 437), (.str (S "net") 438), (.str (S "prefix") 439), (.str (S "makes") 440), (.str (S "found") 441), (.str (S "place") 442), (.str (S "bit") 443), (.str (S "later") 444)] 0), #[]⟩
noncomputable def o_245 : Params → Obj := fun P => ⟨.none, none, (.func ⟨(S "path"), (S "Routes.path"), (fArgs (sub (st 14) 2)), (.stmts (fBody (sub (st 14) 2))), (fScope (sub (st 14) 2)), 0, [], .none, .none, .none, .none, none, .none, .none, 0⟩), #[]⟩
noncomputable def o_246 : Params → Obj := fun P => ⟨(.type "code"), none, (.fields #[(.str (S "path") 434), (.str (S "Routes.path") 435), (.str (S "/claim/cut.py") 436), (.int 80 0), (.int 4 0), (.int 0 0), (.int 0 0), (.int 3 0), (.ref 195), (.bool true), (.int 181 0), (.ref 196), .none, (.ref 197), (.ref 198), (.ref 199), (.int 445 0), (.int 80 0), (.str (S "/claim/cut.py") 446)]), #[]⟩
noncomputable def o_247 : Params → Obj := fun P => ⟨(.type "function"), none, (.func ⟨(S "path"), (S "Routes.path"), (fArgs (sub (st 14) 2)), (.stmts (fBody (sub (st 14) 2))), (fScope (sub (st 14) 2)), 3, [], .none, .none, .none, (.str (S "thinstack.routes") 241), none, (.ref 200), .none, 0⟩), #[]⟩
noncomputable def o_250 : Params → Obj := fun P => ⟨(.type "tuple"), none, (.seq #[(.str (S "self") 451), (.str (S "route") 452), (.str (S "net") 453), (.str (S "branch") 454), (.str (S "at") 455), (.str (S "other") 456)] 0), #[]⟩
noncomputable def o_252 : Params → Obj := fun P => ⟨.none, none, (.func ⟨(S "add"), (S "Routes.add"), (fArgs (sub (st 14) 3)), (.stmts (fBody (sub (st 14) 3))), (fScope (sub (st 14) 3)), 0, [], .none, .none, .none, .none, none, .none, .none, 0⟩), #[]⟩
noncomputable def o_253 : Params → Obj := fun P => ⟨(.type "code"), none, (.fields #[(.str (S "add") 448), (.str (S "Routes.add") 449), (.str (S "/claim/cut.py") 450), (.int 93 0), (.int 2 0), (.int 0 0), (.int 0 0), (.int 3 0), (.ref 202), (.bool true), (.int 181 0), (.ref 203), .none, (.ref 204), (.ref 205), (.ref 206), (.int 457 0), (.int 93 0), (.str (S "/claim/cut.py") 458)]), #[]⟩
noncomputable def o_254 : Params → Obj := fun P => ⟨(.type "function"), none, (.func ⟨(S "add"), (S "Routes.add"), (fArgs (sub (st 14) 3)), (.stmts (fBody (sub (st 14) 3))), (fScope (sub (st 14) 3)), 3, [], .none, .none, .none, (.str (S "thinstack.routes") 241), none, (.ref 207), .none, 0⟩), #[]⟩
noncomputable def o_257 : Params → Obj := fun P => ⟨(.type "tuple"), none, (.seq #[(.str (S "self") 463), (.str (S "net") 464), (.str (S "prefix") 465), (.str (S "path") 466), (.str (S "many") 467)] 0), #[]⟩
noncomputable def o_259 : Params → Obj := fun P => ⟨.none, none, (.func ⟨(S "remove"), (S "Routes.remove"), (fArgs (sub (st 14) 4)), (.stmts (fBody (sub (st 14) 4))), (fScope (sub (st 14) 4)), 0, [], .none, .none, .none, .none, none, .none, .none, 0⟩), #[]⟩
noncomputable def o_260 : Params → Obj := fun P => ⟨(.type "code"), none, (.fields #[(.str (S "remove") 460), (.str (S "Routes.remove") 461), (.str (S "/claim/cut.py") 462), (.int 108 0), (.int 3 0), (.int 0 0), (.int 0 0), (.int 3 0), (.ref 209), (.bool true), (.int 181 0), (.ref 210), .none, (.ref 211), (.ref 212), (.ref 213), (.int 468 0), (.int 108 0), (.str (S "/claim/cut.py") 469)]), #[]⟩
noncomputable def o_261 : Params → Obj := fun P => ⟨(.type "function"), none, (.func ⟨(S "remove"), (S "Routes.remove"), (fArgs (sub (st 14) 4)), (.stmts (fBody (sub (st 14) 4))), (fScope (sub (st 14) 4)), 3, [], .none, .none, .none, (.str (S "thinstack.routes") 241), none, (.ref 214), .none, 0⟩), #[]⟩
noncomputable def o_264 : Params → Obj := fun P => ⟨.none, none, (.func ⟨(S "remove_face"), (S "Routes.remove_face"), (fArgs (sub (st 14) 5)), (.stmts (fBody (sub (st 14) 5))), (fScope (sub (st 14) 5)), 0, [], .none, .none, .none, .none, none, .none, .none, 0⟩), #[]⟩
noncomputable def o_265 : Params → Obj := fun P => ⟨(.type "code"), none, (.fields #[(.str (S "remove_face") 471), (.str (S "Routes.remove_face") 472), (.str (S "/claim/cut.py") 473), (.int 119 0), (.int 2 0), (.int 0 0), (.int 0 0), (.int 3 0), (.ref 216), (.bool true), (.int 181 0), (.ref 217), .none, .none, .none, (.ref 218), (.int 474 0), (.int 119 0), (.str (S "/claim/cut.py") 475)]), #[]⟩
noncomputable def o_266 : Params → Obj := fun P => ⟨(.type "function"), none, (.func ⟨(S "remove_face"), (S "Routes.remove_face"), (fArgs (sub (st 14) 5)), (.stmts (fBody (sub (st 14) 5))), (fScope (sub (st 14) 5)), 3, [], .none, .none, .none, (.str (S "thinstack.routes") 241), none, (.ref 219), .none, 0⟩), #[]⟩
noncomputable def o_269 : Params → Obj := fun P => ⟨(.type "tuple"), none, (.seq #[(.str (S "self") 480), (.str (S "net") 481), (.str (S "path") 482), (.str (S "at") 483)] 0), #[]⟩
noncomputable def o_271 : Params → Obj := fun P => ⟨.none, none, (.func ⟨(S "prune"), (S "Routes.prune"), (fArgs (sub (st 14) 6)), (.stmts (fBody (sub (st 14) 6))), (fScope (sub (st 14) 6)), 0, [], .none, .none, .none, .none, none, .none, .none, 0⟩), #[]⟩
noncomputable def o_272 : Params → Obj := fun P => ⟨(.type "code"), none, (.fields #[(.str (S "prune") 477), (.str (S "Routes.prune") 478), (.str (S "/claim/cut.py") 479), (.int 130 0), (.int 3 0), (.int 0 0), (.int 0 0), (.int 3 0), (.ref 221), (.bool true), (.int 181 0), (.ref 222), .none, (.ref 223), (.ref 224), (.ref 225), (.int 484 0), (.int 130 0), (.str (S "/claim/cut.py") 485)]), #[]⟩
noncomputable def o_273 : Params → Obj := fun P => ⟨(.type "function"), none, (.func ⟨(S "prune"), (S "Routes.prune"), (fArgs (sub (st 14) 6)), (.stmts (fBody (sub (st 14) 6))), (fScope (sub (st 14) 6)), 3, [], .none, .none, .none, (.str (S "thinstack.routes") 241), none, (.ref 226), .none, 0⟩), #[]⟩
noncomputable def o_276 : Params → Obj := fun P => ⟨(.type "tuple"), none, (.seq #[(.str (S "self") 490), (.str (S "address") 491), (.str (S "branch") 492), (.str (S "found") 493), (.str (S "place") 494)] 0), #[]⟩
noncomputable def o_278 : Params → Obj := fun P => ⟨.none, none, (.func ⟨(S "find"), (S "Routes.find"), (fArgs (sub (st 14) 7)), (.stmts (fBody (sub (st 14) 7))), (fScope (sub (st 14) 7)), 0, [], .none, .none, .none, .none, none, .none, .none, 0⟩), #[]⟩
noncomputable def o_279 : Params → Obj := fun P => ⟨(.type "code"), none, (.fields #[(.str (S "find") 487), (.str (S "Routes.find") 488), (.str (S "/claim/cut.py") 489), (.int 136 0), (.int 2 0), (.int 0 0), (.int 0 0), (.int 3 0), (.ref 228), (.bool true), (.int 181 0), (.ref 229), .none, (.ref 230), (.ref 231), (.ref 232), (.int 495 0), (.int 136 0), (.str (S "/claim/cut.py") 496)]), #[]⟩
noncomputable def o_280 : Params → Obj := fun P => ⟨(.type "function"), none, (.func ⟨(S "find"), (S "Routes.find"), (fArgs (sub (st 14) 7)), (.stmts (fBody (sub (st 14) 7))), (fScope (sub (st 14) 7)), 3, [], .none, .none, .none, (.str (S "thinstack.routes") 241), none, (.ref 233), .none, 0⟩), #[]⟩
noncomputable def o_283 : Params → Obj := fun P => ⟨(.type "tuple"), none, (.seq #[(.str (S "self") 501), (.str (S "found") 502), (.str (S "left") 503), (.str (S "branch") 504)] 0), #[]⟩
noncomputable def o_285 : Params → Obj := fun P => ⟨.none, none, (.func ⟨(S "rows"), (S "Routes.rows"), (fArgs (sub (st 14) 8)), (.stmts (fBody (sub (st 14) 8))), (fScope (sub (st 14) 8)), 0, [], .none, .none, .none, .none, none, .none, .none, 0⟩), #[]⟩
noncomputable def o_286 : Params → Obj := fun P => ⟨(.type "code"), none, (.fields #[(.str (S "rows") 498), (.str (S "Routes.rows") 499), (.str (S "/claim/cut.py") 500), (.int 147 0), (.int 1 0), (.int 0 0), (.int 0 0), (.int 3 0), (.ref 235), (.bool true), (.int 181 0), (.ref 236), .none, (.ref 237), (.ref 238), (.ref 239), (.int 505 0), (.int 147 0), (.str (S "/claim/cut.py") 506)]), #[]⟩
noncomputable def o_287 : Params → Obj := fun P => ⟨(.type "function"), none, (.func ⟨(S "rows"), (S "Routes.rows"), (fArgs (sub (st 14) 8)), (.stmts (fBody (sub (st 14) 8))), (fScope (sub (st 14) 8)), 3, [], .none, .none, .none, (.str (S "thinstack.routes") 241), none, (.ref 240), .none, 0⟩), #[]⟩
noncomputable def o_288 : Params → Obj := fun P => ⟨(.type "tuple"), none, (.seq #[(.str (S "many") 508), (.str (S "root") 509)] 0), #[]⟩
noncomputable def o_289 : Params → Obj := fun P => ⟨(.type "dict"), none, (.dict #[en P "__module__" 415 (.str (S "thinstack.routes") 241), en P "__firstlineno__" 419 (.int 71 418), en P "__init__" 426 (.ref 187), en P "size" 433 (.ref 194), en P "path" 447 (.ref 201), en P "add" 459 (.ref 208), en P "remove" 470 (.ref 215), en P "remove_face" 476 (.ref 220), en P "prune" 486 (.ref 227), en P "find" 497 (.ref 234), en P "rows" 507 (.ref 241), en P "__static_attributes__" 510 (.ref 242), en P "__dict__" 512 (.ref 245), en P "__weakref__" 514 (.ref 246), en P "__doc__" 515 .none] 4), #[]⟩
noncomputable def o_290 : Params → Obj := fun P => ⟨(.type "type"), none, (.cls ⟨(S "Routes"), [(.type "object")], [(.ref 244), (.type "object")], 243, (S "Routes"), true, [], [], false, none, false⟩), #[none, none, (some (.str (S "Routes") 408)), (some (.str (S "Routes") 416)), (some (.builtin "object.__new__")), (some (.bool true))]⟩
noncomputable def o_291 : Params → Obj := fun P => ⟨(.type "getset_descriptor"), none, (.fields #[(.str (S "__dict__") 511), (.ref 244), (.builtin "function.__dict__"), (.builtin "function.__dict__#set")]), #[]⟩
noncomputable def o_292 : Params → Obj := fun P => ⟨(.type "getset_descriptor"), none, (.fields #[(.str (S "__weakref__") 513), (.ref 244), (.builtin "ExceptionGroup.__weakref__"), .none]), #[]⟩
noncomputable def o_293 : Params → Obj := fun P => ⟨(.type "super"), none, (.fields #[(.ref 244), (.ref 244), (.ref 244)]), #[]⟩
noncomputable def o_294 : Params → Obj := fun P => ⟨(.type "builtin_function_or_method"), none, (.fields #[(.builtin "object.__init_subclass__"), (.ref 244)]), #[]⟩
noncomputable def o_295 : Params → Obj := fun P => ⟨(.type "dict"), none, (.dict #[en P "__name__" 165 (.str (S "law_nu0125_01") 518), en P "__doc__" 166 .none, en P "__package__" 167 .none, en P "__loader__" 168 (.builtin "__main__.__loader__#opaque"), en P "__spec__" 169 .none, en P "__annotations__" 170 (.ref 6), en P "__builtins__" 171 (.ref 4), en P "__file__" 173 (.str (S "/claim/cut.py") 172), en P "__cached__" 174 .none, en P "_wall" 193 (.ref 21), en P "StackError" 224 (.ref 38), en P "RouteError" 240 (.ref 51), en P "BITS" 244 (.int 32 243), en P "ALL" 250 (.int 4294967295 249), en P "mask_of" 257 (.ref 60), en P "net_of" 265 (.ref 67), en P "is_in" 274 (.ref 74), en P "is_broadcast" 283 (.ref 81), en P "Route" 336 (.ref 113), en P "Branch" 399 (.ref 162), en P "bit_at" 407 (.ref 173), en P "Routes" 517 (.ref 244), en P "_law_pool" 529 (.ref 255), en P "_law_take" 538 (.ref 262), en P "_law_one" 546 (.ref 269), en P "_law_head" 554 (.ref 276), en P "_law_net" 563 (.ref 283), en P "_law_route" 572 (.ref 290), en P "_law_put" 581 (.ref 297), en P "_law_found" 591 (.ref 304), en P "_law_addresses" 604 (.ref 311), en P "_law_refused" 612 (.ref 318), en P "_law_changed" 618 (.ref 323), en P "_law_all_right" 624 (.ref 328)] 34), #[]⟩
noncomputable def o_296 : Params → Obj := fun P => ⟨.none, none, (.fields #[(.int 1 0), (.int 0 0), (.ref 20), (.int 5 0), (.int 0 0), (.ref 27), (.int 9 0), (.int 0 0), (.ref 47), (.int 14 0), (.int 0 0), (.ref 59), (.int 18 0), (.int 0 0), (.ref 66), (.int 20 0), (.int 0 0), (.ref 73), (.int 22 0), (.int 0 0), (.ref 80), (.int 28 0), (.int 0 0), (.ref 87), (.int 42 0), (.int 0 0), (.ref 123), (.int 69 0), (.int 0 0), (.ref 172), (.int 71 0), (.int 0 0), (.ref 179), (.int 159 0), (.int 0 0), (.ref 254), (.int 163 0), (.int 0 0), (.ref 261), (.int 170 0), (.int 0 0), (.ref 268), (.int 172 0), (.int 0 0), (.ref 275), (.int 174 0), (.int 0 0), (.ref 282), (.int 178 0), (.int 0 0), (.ref 289), (.int 181 0), (.int 0 0), (.ref 296), (.int 186 0), (.int 0 0), (.ref 303), (.int 193 0), (.int 0 0), (.ref 310), (.int 202 0), (.int 0 0), (.ref 317), (.int 208 0), (.int 0 0), (.ref 322), (.int 223 0), (.int 0 0), (.ref 327)]), #[]⟩
noncomputable def o_299 : Params → Obj := fun P => ⟨(.type "tuple"), none, (.seq #[(.str (S "script") 523), (.str (S "k") 524), (.str (S "cell") 525), (.str (S "big") 526)] 0), #[]⟩
noncomputable def o_301 : Params → Obj := fun P => ⟨.none, none, (.func ⟨(S "_law_pool"), (S "_law_pool"), (fArgs (st 16)), (.stmts (fBody (st 16))), (fScope (st 16)), 0, [], .none, .none, .none, .none, none, .none, .none, 0⟩), #[]⟩
noncomputable def o_302 : Params → Obj := fun P => ⟨(.type "code"), none, (.fields #[(.str (S "_law_pool") 520), (.str (S "_law_pool") 521), (.str (S "/claim/cut.py") 522), (.int 159 0), (.int 2 0), (.int 0 0), (.int 0 0), (.int 3 0), (.ref 249), (.bool true), (.int 181 0), (.ref 250), .none, (.ref 251), (.ref 252), (.ref 253), (.int 527 0), (.int 159 0), (.str (S "/claim/cut.py") 528)]), #[]⟩
noncomputable def o_303 : Params → Obj := fun P => ⟨(.type "function"), none, (.func ⟨(S "_law_pool"), (S "_law_pool"), (fArgs (st 16)), (.stmts (fBody (st 16))), (fScope (st 16)), 3, [], .none, .none, .none, (.str (S "law_nu0125_01") 518), none, (.ref 254), .none, 0⟩), #[]⟩
noncomputable def o_306 : Params → Obj := fun P => ⟨(.type "tuple"), none, (.seq #[(.str (S "source") 533), (.str (S "top") 534), (.str (S "drawn") 535)] 0), #[]⟩
noncomputable def o_308 : Params → Obj := fun P => ⟨.none, none, (.func ⟨(S "_law_take"), (S "_law_take"), (fArgs (st 17)), (.stmts (fBody (st 17))), (fScope (st 17)), 0, [], .none, .none, .none, .none, none, .none, .none, 0⟩), #[]⟩
noncomputable def o_309 : Params → Obj := fun P => ⟨(.type "code"), none, (.fields #[(.str (S "_law_take") 530), (.str (S "_law_take") 531), (.str (S "/claim/cut.py") 532), (.int 163 0), (.int 2 0), (.int 0 0), (.int 0 0), (.int 3 0), (.ref 256), (.bool true), (.int 181 0), (.ref 257), .none, (.ref 258), (.ref 259), (.ref 260), (.int 536 0), (.int 163 0), (.str (S "/claim/cut.py") 537)]), #[]⟩
noncomputable def o_310 : Params → Obj := fun P => ⟨(.type "function"), none, (.func ⟨(S "_law_take"), (S "_law_take"), (fArgs (st 17)), (.stmts (fBody (st 17))), (fScope (st 17)), 3, [], .none, .none, .none, (.str (S "law_nu0125_01") 518), none, (.ref 261), .none, 0⟩), #[]⟩
noncomputable def o_313 : Params → Obj := fun P => ⟨(.type "tuple"), none, (.seq #[(.str (S "source") 542), (.str (S "things") 543)] 0), #[]⟩
noncomputable def o_315 : Params → Obj := fun P => ⟨.none, none, (.func ⟨(S "_law_one"), (S "_law_one"), (fArgs (st 18)), (.stmts (fBody (st 18))), (fScope (st 18)), 0, [], .none, .none, .none, .none, none, .none, .none, 0⟩), #[]⟩
noncomputable def o_316 : Params → Obj := fun P => ⟨(.type "code"), none, (.fields #[(.str (S "_law_one") 539), (.str (S "_law_one") 540), (.str (S "/claim/cut.py") 541), (.int 170 0), (.int 2 0), (.int 0 0), (.int 0 0), (.int 3 0), (.ref 263), (.bool true), (.int 181 0), (.ref 264), .none, (.ref 265), (.ref 266), (.ref 267), (.int 544 0), (.int 170 0), (.str (S "/claim/cut.py") 545)]), #[]⟩
noncomputable def o_317 : Params → Obj := fun P => ⟨(.type "function"), none, (.func ⟨(S "_law_one"), (S "_law_one"), (fArgs (st 18)), (.stmts (fBody (st 18))), (fScope (st 18)), 3, [], .none, .none, .none, (.str (S "law_nu0125_01") 518), none, (.ref 268), .none, 0⟩), #[]⟩
noncomputable def o_320 : Params → Obj := fun P => ⟨(.type "tuple"), none, (.seq #[(.str (S "address") 550), (.str (S "prefix") 551)] 0), #[]⟩
noncomputable def o_322 : Params → Obj := fun P => ⟨.none, none, (.func ⟨(S "_law_head"), (S "_law_head"), (fArgs (st 19)), (.stmts (fBody (st 19))), (fScope (st 19)), 0, [], .none, .none, .none, .none, none, .none, .none, 0⟩), #[]⟩
noncomputable def o_323 : Params → Obj := fun P => ⟨(.type "code"), none, (.fields #[(.str (S "_law_head") 547), (.str (S "_law_head") 548), (.str (S "/claim/cut.py") 549), (.int 172 0), (.int 2 0), (.int 0 0), (.int 0 0), (.int 3 0), (.ref 270), (.bool true), (.int 181 0), (.ref 271), .none, (.ref 272), (.ref 273), (.ref 274), (.int 552 0), (.int 172 0), (.str (S "/claim/cut.py") 553)]), #[]⟩
noncomputable def o_324 : Params → Obj := fun P => ⟨(.type "function"), none, (.func ⟨(S "_law_head"), (S "_law_head"), (fArgs (st 19)), (.stmts (fBody (st 19))), (fScope (st 19)), 3, [], .none, .none, .none, (.str (S "law_nu0125_01") 518), none, (.ref 275), .none, 0⟩), #[]⟩
noncomputable def o_327 : Params → Obj := fun P => ⟨(.type "tuple"), none, (.seq #[(.str (S "source") 558), (.str (S "base") 559), (.str (S "prefix") 560)] 0), #[]⟩
noncomputable def o_329 : Params → Obj := fun P => ⟨.none, none, (.func ⟨(S "_law_net"), (S "_law_net"), (fArgs (st 20)), (.stmts (fBody (st 20))), (fScope (st 20)), 0, [], .none, .none, .none, .none, none, .none, .none, 0⟩), #[]⟩
noncomputable def o_330 : Params → Obj := fun P => ⟨(.type "code"), none, (.fields #[(.str (S "_law_net") 555), (.str (S "_law_net") 556), (.str (S "/claim/cut.py") 557), (.int 174 0), (.int 1 0), (.int 0 0), (.int 0 0), (.int 3 0), (.ref 277), (.bool true), (.int 181 0), (.ref 278), .none, (.ref 279), (.ref 280), (.ref 281), (.int 561 0), (.int 174 0), (.str (S "/claim/cut.py") 562)]), #[]⟩
noncomputable def o_331 : Params → Obj := fun P => ⟨(.type "function"), none, (.func ⟨(S "_law_net"), (S "_law_net"), (fArgs (st 20)), (.stmts (fBody (st 20))), (fScope (st 20)), 3, [], .none, .none, .none, (.str (S "law_nu0125_01") 518), none, (.ref 282), .none, 0⟩), #[]⟩
noncomputable def o_334 : Params → Obj := fun P => ⟨(.type "tuple"), none, (.seq #[(.str (S "source") 567), (.str (S "net") 568), (.str (S "prefix") 569)] 0), #[]⟩
noncomputable def o_336 : Params → Obj := fun P => ⟨.none, none, (.func ⟨(S "_law_route"), (S "_law_route"), (fArgs (st 21)), (.stmts (fBody (st 21))), (fScope (st 21)), 0, [], .none, .none, .none, .none, none, .none, .none, 0⟩), #[]⟩
noncomputable def o_337 : Params → Obj := fun P => ⟨(.type "code"), none, (.fields #[(.str (S "_law_route") 564), (.str (S "_law_route") 565), (.str (S "/claim/cut.py") 566), (.int 178 0), (.int 1 0), (.int 0 0), (.int 0 0), (.int 3 0), (.ref 284), (.bool true), (.int 181 0), (.ref 285), .none, (.ref 286), (.ref 287), (.ref 288), (.int 570 0), (.int 178 0), (.str (S "/claim/cut.py") 571)]), #[]⟩
noncomputable def o_338 : Params → Obj := fun P => ⟨(.type "function"), none, (.func ⟨(S "_law_route"), (S "_law_route"), (fArgs (st 21)), (.stmts (fBody (st 21))), (fScope (st 21)), 3, [], .none, .none, .none, (.str (S "law_nu0125_01") 518), none, (.ref 289), .none, 0⟩), #[]⟩
noncomputable def o_341 : Params → Obj := fun P => ⟨(.type "tuple"), none, (.seq #[(.str (S "rows") 576), (.str (S "row") 577), (.str (S "at") 578)] 0), #[]⟩
noncomputable def o_343 : Params → Obj := fun P => ⟨.none, none, (.func ⟨(S "_law_put"), (S "_law_put"), (fArgs (st 22)), (.stmts (fBody (st 22))), (fScope (st 22)), 0, [], .none, .none, .none, .none, none, .none, .none, 0⟩), #[]⟩
noncomputable def o_344 : Params → Obj := fun P => ⟨(.type "code"), none, (.fields #[(.str (S "_law_put") 573), (.str (S "_law_put") 574), (.str (S "/claim/cut.py") 575), (.int 181 0), (.int 2 0), (.int 0 0), (.int 0 0), (.int 3 0), (.ref 291), (.bool true), (.int 181 0), (.ref 292), .none, (.ref 293), (.ref 294), (.ref 295), (.int 579 0), (.int 181 0), (.str (S "/claim/cut.py") 580)]), #[]⟩
noncomputable def o_345 : Params → Obj := fun P => ⟨(.type "function"), none, (.func ⟨(S "_law_put"), (S "_law_put"), (fArgs (st 22)), (.stmts (fBody (st 22))), (fScope (st 22)), 3, [], .none, .none, .none, (.str (S "law_nu0125_01") 518), none, (.ref 296), .none, 0⟩), #[]⟩
noncomputable def o_348 : Params → Obj := fun P => ⟨(.type "tuple"), none, (.seq #[(.str (S "rows") 585), (.str (S "address") 586), (.str (S "best") 587), (.str (S "row") 588)] 0), #[]⟩
noncomputable def o_350 : Params → Obj := fun P => ⟨.none, none, (.func ⟨(S "_law_found"), (S "_law_found"), (fArgs (st 23)), (.stmts (fBody (st 23))), (fScope (st 23)), 0, [], .none, .none, .none, .none, none, .none, .none, 0⟩), #[]⟩
noncomputable def o_351 : Params → Obj := fun P => ⟨(.type "code"), none, (.fields #[(.str (S "_law_found") 582), (.str (S "_law_found") 583), (.str (S "/claim/cut.py") 584), (.int 186 0), (.int 2 0), (.int 0 0), (.int 0 0), (.int 3 0), (.ref 298), (.bool true), (.int 181 0), (.ref 299), .none, (.ref 300), (.ref 301), (.ref 302), (.int 589 0), (.int 186 0), (.str (S "/claim/cut.py") 590)]), #[]⟩
noncomputable def o_352 : Params → Obj := fun P => ⟨(.type "function"), none, (.func ⟨(S "_law_found"), (S "_law_found"), (fArgs (st 23)), (.stmts (fBody (st 23))), (fScope (st 23)), 3, [], .none, .none, .none, (.str (S "law_nu0125_01") 518), none, (.ref 303), .none, 0⟩), #[]⟩
noncomputable def o_355 : Params → Obj := fun P => ⟨(.type "tuple"), none, (.seq #[(.str (S "source") 595), (.str (S "rows") 596), (.str (S "found") 597), (.str (S "turn") 598), (.str (S "net") 599), (.str (S "prefix") 600), (.str (S "size") 601)] 0), #[]⟩
noncomputable def o_357 : Params → Obj := fun P => ⟨.none, none, (.func ⟨(S "_law_addresses"), (S "_law_addresses"), (fArgs (st 24)), (.stmts (fBody (st 24))), (fScope (st 24)), 0, [], .none, .none, .none, .none, none, .none, .none, 0⟩), #[]⟩
noncomputable def o_358 : Params → Obj := fun P => ⟨(.type "code"), none, (.fields #[(.str (S "_law_addresses") 592), (.str (S "_law_addresses") 593), (.str (S "/claim/cut.py") 594), (.int 193 0), (.int 2 0), (.int 0 0), (.int 0 0), (.int 3 0), (.ref 305), (.bool true), (.int 181 0), (.ref 306), .none, (.ref 307), (.ref 308), (.ref 309), (.int 602 0), (.int 193 0), (.str (S "/claim/cut.py") 603)]), #[]⟩
noncomputable def o_359 : Params → Obj := fun P => ⟨(.type "function"), none, (.func ⟨(S "_law_addresses"), (S "_law_addresses"), (fArgs (st 24)), (.stmts (fBody (st 24))), (fScope (st 24)), 3, [], .none, .none, .none, (.str (S "law_nu0125_01") 518), none, (.ref 310), .none, 0⟩), #[]⟩
noncomputable def o_362 : Params → Obj := fun P => ⟨(.type "tuple"), none, (.seq #[(.str (S "routes") 608), (.str (S "row") 609)] 0), #[]⟩
noncomputable def o_364 : Params → Obj := fun P => ⟨.none, none, (.func ⟨(S "_law_refused"), (S "_law_refused"), (fArgs (st 25)), (.stmts (fBody (st 25))), (fScope (st 25)), 0, [], .none, .none, .none, .none, none, .none, .none, 0⟩), #[]⟩
noncomputable def o_365 : Params → Obj := fun P => ⟨(.type "code"), none, (.fields #[(.str (S "_law_refused") 605), (.str (S "_law_refused") 606), (.str (S "/claim/cut.py") 607), (.int 202 0), (.int 2 0), (.int 0 0), (.int 0 0), (.int 3 0), (.ref 312), (.bool true), (.int 181 0), (.ref 313), .none, (.ref 314), (.ref 315), (.ref 316), (.int 610 0), (.int 202 0), (.str (S "/claim/cut.py") 611)]), #[]⟩
noncomputable def o_366 : Params → Obj := fun P => ⟨(.type "function"), none, (.func ⟨(S "_law_refused"), (S "_law_refused"), (fArgs (st 25)), (.stmts (fBody (st 25))), (fScope (st 25)), 3, [], .none, .none, .none, (.str (S "law_nu0125_01") 518), none, (.ref 317), .none, 0⟩), #[]⟩
noncomputable def o_369 : Params → Obj := fun P => ⟨.none, none, (.func ⟨(S "_law_changed"), (S "_law_changed"), (fArgs (st 26)), (.stmts (fBody (st 26))), (fScope (st 26)), 0, [], .none, .none, .none, .none, none, .none, .none, 0⟩), #[]⟩
noncomputable def o_370 : Params → Obj := fun P => ⟨(.type "code"), none, (.fields #[(.str (S "_law_changed") 613), (.str (S "_law_changed") 614), (.str (S "/claim/cut.py") 615), (.int 208 0), (.int 3 0), (.int 0 0), (.int 0 0), (.int 3 0), (.ref 319), (.bool true), (.int 181 0), (.ref 320), .none, .none, .none, (.ref 321), (.int 616 0), (.int 208 0), (.str (S "/claim/cut.py") 617)]), #[]⟩
noncomputable def o_371 : Params → Obj := fun P => ⟨(.type "function"), none, (.func ⟨(S "_law_changed"), (S "_law_changed"), (fArgs (st 26)), (.stmts (fBody (st 26))), (fScope (st 26)), 3, [], .none, .none, .none, (.str (S "law_nu0125_01") 518), none, (.ref 322), .none, 0⟩), #[]⟩
noncomputable def o_374 : Params → Obj := fun P => ⟨.none, none, (.func ⟨(S "_law_all_right"), (S "_law_all_right"), (fArgs (st 27)), (.stmts (fBody (st 27))), (fScope (st 27)), 0, [], .none, .none, .none, .none, none, .none, .none, 0⟩), #[]⟩
noncomputable def o_375 : Params → Obj := fun P => ⟨(.type "code"), none, (.fields #[(.str (S "_law_all_right") 619), (.str (S "_law_all_right") 620), (.str (S "/claim/cut.py") 621), (.int 223 0), (.int 3 0), (.int 0 0), (.int 0 0), (.int 3 0), (.ref 324), (.bool true), (.int 181 0), (.ref 325), .none, .none, .none, (.ref 326), (.int 622 0), (.int 223 0), (.str (S "/claim/cut.py") 623)]), #[]⟩
noncomputable def o_376 : Params → Obj := fun P => ⟨(.type "function"), none, (.func ⟨(S "_law_all_right"), (S "_law_all_right"), (fArgs (st 27)), (.stmts (fBody (st 27))), (fScope (st 27)), 3, [], .none, .none, .none, (.str (S "law_nu0125_01") 518), none, (.ref 327), .none, 0⟩), #[]⟩
noncomputable def o_377 : Params → Obj := fun P => ⟨(.type "dict"), none, (.dict #[en P "__name__" 165 (.str (S "law_nu0125_01") 518), en P "__doc__" 166 .none, en P "__package__" 167 .none, en P "__loader__" 168 (.builtin "__main__.__loader__#opaque"), en P "__spec__" 169 .none, en P "__annotations__" 170 (.ref 6), en P "__builtins__" 171 (.ref 4), en P "__file__" 173 (.str (S "/claim/cut.py") 172), en P "__cached__" 174 .none, en P "_wall" 193 (.ref 21), en P "StackError" 224 (.ref 38), en P "RouteError" 240 (.ref 51), en P "BITS" 244 (.int 32 243), en P "ALL" 250 (.int 4294967295 249), en P "mask_of" 257 (.ref 60), en P "net_of" 265 (.ref 67), en P "is_in" 274 (.ref 74), en P "is_broadcast" 283 (.ref 81), en P "Route" 336 (.ref 113), en P "Branch" 399 (.ref 162), en P "bit_at" 407 (.ref 173), en P "Routes" 517 (.ref 244), en P "_law_pool" 529 (.ref 255), en P "_law_take" 538 (.ref 262), en P "_law_one" 546 (.ref 269), en P "_law_head" 554 (.ref 276), en P "_law_net" 563 (.ref 283), en P "_law_route" 572 (.ref 290), en P "_law_put" 581 (.ref 297), en P "_law_found" 591 (.ref 304), en P "_law_addresses" 604 (.ref 311), en P "_law_refused" 612 (.ref 318), en P "_law_changed" 618 (.ref 323), en P "_law_all_right" 624 (.ref 328), en P "_law_bits_right" 637 (.ref 335), en P "law" 651 (.ref 342)] 36), #[]⟩
noncomputable def o_378 : Params → Obj := fun P => ⟨.none, none, (.fields #[(.int 1 0), (.int 0 0), (.ref 20), (.int 5 0), (.int 0 0), (.ref 27), (.int 9 0), (.int 0 0), (.ref 47), (.int 14 0), (.int 0 0), (.ref 59), (.int 18 0), (.int 0 0), (.ref 66), (.int 20 0), (.int 0 0), (.ref 73), (.int 22 0), (.int 0 0), (.ref 80), (.int 28 0), (.int 0 0), (.ref 87), (.int 42 0), (.int 0 0), (.ref 123), (.int 69 0), (.int 0 0), (.ref 172), (.int 71 0), (.int 0 0), (.ref 179), (.int 159 0), (.int 0 0), (.ref 254), (.int 163 0), (.int 0 0), (.ref 261), (.int 170 0), (.int 0 0), (.ref 268), (.int 172 0), (.int 0 0), (.ref 275), (.int 174 0), (.int 0 0), (.ref 282), (.int 178 0), (.int 0 0), (.ref 289), (.int 181 0), (.int 0 0), (.ref 296), (.int 186 0), (.int 0 0), (.ref 303), (.int 193 0), (.int 0 0), (.ref 310), (.int 202 0), (.int 0 0), (.ref 317), (.int 208 0), (.int 0 0), (.ref 322), (.int 223 0), (.int 0 0), (.ref 327), (.int 230 0), (.int 0 0), (.ref 334), (.int 241 0), (.int 0 0), (.ref 341)]), #[]⟩
noncomputable def o_381 : Params → Obj := fun P => ⟨(.type "tuple"), none, (.seq #[(.str (S "source") 628), (.str (S "net") 629), (.str (S "prefix") 630), (.str (S "size") 631), (.str (S "address") 632), (.str (S "inside") 633), (.str (S "told") 634)] 0), #[]⟩
noncomputable def o_383 : Params → Obj := fun P => ⟨.none, none, (.func ⟨(S "_law_bits_right"), (S "_law_bits_right"), (fArgs (st 28)), (.stmts (fBody (st 28))), (fScope (st 28)), 0, [], .none, .none, .none, .none, none, .none, .none, 0⟩), #[]⟩
noncomputable def o_384 : Params → Obj := fun P => ⟨(.type "code"), none, (.fields #[(.str (S "_law_bits_right") 625), (.str (S "_law_bits_right") 626), (.str (S "/claim/cut.py") 627), (.int 230 0), (.int 1 0), (.int 0 0), (.int 0 0), (.int 3 0), (.ref 329), (.bool true), (.int 181 0), (.ref 330), .none, (.ref 331), (.ref 332), (.ref 333), (.int 635 0), (.int 230 0), (.str (S "/claim/cut.py") 636)]), #[]⟩
noncomputable def o_385 : Params → Obj := fun P => ⟨(.type "function"), none, (.func ⟨(S "_law_bits_right"), (S "_law_bits_right"), (fArgs (st 28)), (.stmts (fBody (st 28))), (fScope (st 28)), 3, [], .none, .none, .none, (.str (S "law_nu0125_01") 518), none, (.ref 334), .none, 0⟩), #[]⟩
noncomputable def o_388 : Params → Obj := fun P => ⟨(.type "tuple"), none, (.seq #[(.str (S "script") 641), (.str (S "source") 642), (.str (S "routes") 643), (.str (S "rows") 644), (.str (S "turn") 645), (.str (S "row") 646), (.str (S "net") 647), (.str (S "prefix") 648)] 0), #[]⟩
noncomputable def o_390 : Params → Obj := fun P => ⟨.none, none, (.func ⟨(S "law"), (S "law"), (fArgs (st 29)), (.stmts (fBody (st 29))), (fScope (st 29)), 0, [], .none, .none, .none, .none, none, .none, .none, 0⟩), #[]⟩
noncomputable def o_391 : Params → Obj := fun P => ⟨(.type "code"), none, (.fields #[(.str (S "law") 638), (.str (S "law") 639), (.str (S "/claim/cut.py") 640), (.int 241 0), (.int 1 0), (.int 0 0), (.int 0 0), (.int 3 0), (.ref 336), (.bool true), (.int 181 0), (.ref 337), .none, (.ref 338), (.ref 339), (.ref 340), (.int 649 0), (.int 241 0), (.str (S "/claim/cut.py") 650)]), #[]⟩
noncomputable def o_392 : Params → Obj := fun P => ⟨(.type "function"), none, (.func ⟨(S "law"), (S "law"), (fArgs (st 29)), (.stmts (fBody (st 29))), (fScope (st 29)), 3, [], .none, .none, .none, (.str (S "law_nu0125_01") 518), none, (.ref 341), .none, 0⟩), #[]⟩
noncomputable def env_41 : Env := ⟨(PySem.Module.scope (PySem.Program.main PP)), PySem.mainNs, PySem.mainNs, [], PySem.Str.empty, none, (.ref 13), (some 14), 0⟩
noncomputable def sts_49 : List Stmt := [(st 0), (st 1), (st 2)]
noncomputable def sts_79 : List Stmt := [(st 3), (st 4), (st 5), (st 6), (st 7), (st 8), (st 9), (st 10)]
noncomputable def sts_122 : List Stmt := [(st 11)]
noncomputable def sts_160 : List Stmt := [(st 12), (st 13)]
noncomputable def sts_218 : List Stmt := [(st 14)]
noncomputable def sts_295 : List Stmt := [(st 15), (st 16), (st 17), (st 18), (st 19), (st 20), (st 21), (st 22), (st 23), (st 24), (st 25), (st 26), (st 27)]
noncomputable def sts_377 : List Stmt := [(st 28), (st 29)]
noncomputable def view_39 : Program := ⟨⟨[(st 0), (st 2), (st 3), (st 5), (st 6), (st 7), (st 8), (st 9), (st 10), (st 11), (st 12), (st 13), (st 14), (st 16), (st 17), (st 18), (st 19), (st 20), (st 21), (st 22), (st 23), (st 24), (st 25), (st 26), (st 27), (st 28), (st 29)], (PySem.Module.scope (PySem.Program.main PP)), (PySem.Module.futureAnnotations (PySem.Program.main PP)), (PySem.Module.file (PySem.Program.main PP)), (PySem.Module.more (PySem.Program.main PP))⟩, (PySem.Program.modules PP), (PySem.Program.parses PP), (PySem.Program.absent PP), (PySem.Program.harvested PP), (PySem.Program.given PP)⟩
noncomputable def tree_47 : Params → BT := fun P => (.node (boot_o_0 P) (.node (boot_o_1 P) (.node (boot_o_3 P) (.node (boot_o_7 P) .nil .nil) (.node (o_43 P) .nil .nil)) (.node (boot_o_5 P) (.node (boot_o_9 P) .nil .nil) (.node (o_45 P) .nil .nil))) (.node (boot_o_2 P) (.node (boot_o_4 P) (.node (boot_o_8 P) .nil .nil) (.node (o_44 P) .nil .nil)) (.node (boot_o_6 P) (.node (boot_o_10 P) .nil .nil) (.node (o_46 P) .nil .nil))))
noncomputable def tree_78 : Params → BT := fun P => (.node (boot_o_0 P) (.node (boot_o_1 P) (.node (o_50 P) (.node (boot_o_7 P) (.node (o_43 P) (.node (o_68 P) .nil .nil) .nil) (.node (o_60 P) (.node (o_76 P) .nil .nil) .nil)) (.node (o_43 P) (.node (o_56 P) (.node (o_72 P) .nil .nil) .nil) (.node (o_64 P) .nil .nil))) (.node (boot_o_5 P) (.node (boot_o_9 P) (.node (o_54 P) (.node (o_70 P) .nil .nil) .nil) (.node (o_43 P) (.node (o_78 P) .nil .nil) .nil)) (.node (o_45 P) (.node (o_58 P) (.node (o_74 P) .nil .nil) .nil) (.node (o_43 P) .nil .nil)))) (.node (o_49 P) (.node (boot_o_4 P) (.node (boot_o_8 P) (.node (o_44 P) (.node (o_43 P) .nil .nil) .nil) (.node (o_61 P) (.node (o_77 P) .nil .nil) .nil)) (.node (o_51 P) (.node (o_57 P) (.node (o_73 P) .nil .nil) .nil) (.node (o_65 P) .nil .nil))) (.node (boot_o_6 P) (.node (boot_o_10 P) (.node (o_43 P) (.node (o_71 P) .nil .nil) .nil) (.node (o_63 P) .nil .nil)) (.node (o_46 P) (.node (o_59 P) (.node (o_75 P) .nil .nil) .nil) (.node (o_44 P) .nil .nil)))))
noncomputable def tree_121 : Params → BT := fun P => (.node (boot_o_0 P) (.node (boot_o_1 P) (.node (o_79 P) (.node (boot_o_7 P) (.node (o_43 P) (.node (o_68 P) (.node (o_103 P) .nil .nil) .nil) (.node (o_87 P) (.node (o_119 P) .nil .nil) .nil)) (.node (o_60 P) (.node (o_76 P) (.node (o_43 P) .nil .nil) .nil) (.node (o_44 P) .nil .nil))) (.node (o_43 P) (.node (o_56 P) (.node (o_72 P) (.node (o_107 P) .nil .nil) .nil) (.node (o_91 P) .nil .nil)) (.node (o_64 P) (.node (o_60 P) (.node (o_43 P) .nil .nil) .nil) (.node (o_99 P) .nil .nil)))) (.node (boot_o_5 P) (.node (boot_o_9 P) (.node (o_54 P) (.node (o_70 P) (.node (o_105 P) .nil .nil) .nil) (.node (o_43 P) (.node (o_121 P) .nil .nil) .nil)) (.node (o_43 P) (.node (o_78 P) (.node (o_113 P) .nil .nil) .nil) (.node (o_43 P) .nil .nil))) (.node (o_45 P) (.node (o_58 P) (.node (o_74 P) (.node (o_44 P) .nil .nil) .nil) (.node (o_93 P) .nil .nil)) (.node (o_43 P) (.node (o_43 P) (.node (o_117 P) .nil .nil) .nil) (.node (o_43 P) .nil .nil))))) (.node (o_49 P) (.node (boot_o_4 P) (.node (boot_o_8 P) (.node (o_44 P) (.node (o_43 P) (.node (o_43 P) .nil .nil) .nil) (.node (o_88 P) (.node (o_120 P) .nil .nil) .nil)) (.node (o_61 P) (.node (o_77 P) (.node (o_112 P) .nil .nil) .nil) (.node (o_96 P) .nil .nil))) (.node (o_80 P) (.node (o_57 P) (.node (o_73 P) (.node (o_43 P) .nil .nil) .nil) (.node (o_92 P) .nil .nil)) (.node (o_65 P) (.node (o_84 P) (.node (o_44 P) .nil .nil) .nil) (.node (o_100 P) .nil .nil)))) (.node (boot_o_6 P) (.node (boot_o_10 P) (.node (o_43 P) (.node (o_71 P) (.node (o_106 P) .nil .nil) .nil) (.node (o_90 P) .nil .nil)) (.node (o_63 P) (.node (o_82 P) (.node (o_114 P) .nil .nil) .nil) (.node (o_98 P) .nil .nil))) (.node (o_46 P) (.node (o_59 P) (.node (o_81 P) (.node (o_110 P) .nil .nil) .nil) (.node (o_43 P) .nil .nil)) (.node (o_44 P) (.node (o_44 P) (.node (o_43 P) .nil .nil) .nil) (.node (o_44 P) .nil .nil))))))
noncomputable def tree_159 : Params → BT := fun P => (.node (boot_o_0 P) (.node (boot_o_1 P) (.node (o_122 P) (.node (boot_o_7 P) (.node (o_43 P) (.node (o_68 P) (.node (o_103 P) .nil .nil) (.node (o_137 P) .nil .nil)) (.node (o_87 P) (.node (o_119 P) .nil .nil) (.node (o_153 P) .nil .nil))) (.node (o_60 P) (.node (o_76 P) (.node (o_43 P) .nil .nil) (.node (o_145 P) .nil .nil)) (.node (o_44 P) (.node (o_129 P) .nil .nil) .nil))) (.node (o_43 P) (.node (o_56 P) (.node (o_72 P) (.node (o_107 P) .nil .nil) (.node (o_141 P) .nil .nil)) (.node (o_91 P) (.node (o_60 P) .nil .nil) (.node (o_157 P) .nil .nil))) (.node (o_64 P) (.node (o_60 P) (.node (o_43 P) .nil .nil) (.node (o_43 P) .nil .nil)) (.node (o_99 P) (.node (o_44 P) .nil .nil) .nil)))) (.node (boot_o_5 P) (.node (boot_o_9 P) (.node (o_54 P) (.node (o_70 P) (.node (o_105 P) .nil .nil) (.node (o_43 P) .nil .nil)) (.node (o_43 P) (.node (o_121 P) .nil .nil) (.node (o_155 P) .nil .nil))) (.node (o_43 P) (.node (o_78 P) (.node (o_113 P) .nil .nil) (.node (o_44 P) .nil .nil)) (.node (o_43 P) (.node (o_131 P) .nil .nil) .nil))) (.node (o_45 P) (.node (o_58 P) (.node (o_74 P) (.node (o_44 P) .nil .nil) (.node (o_143 P) .nil .nil)) (.node (o_93 P) (.node (o_43 P) .nil .nil) (.node (o_159 P) .nil .nil))) (.node (o_43 P) (.node (o_43 P) (.node (o_117 P) .nil .nil) (.node (o_151 P) .nil .nil)) (.node (o_43 P) (.node (o_43 P) .nil .nil) .nil))))) (.node (o_49 P) (.node (boot_o_4 P) (.node (boot_o_8 P) (.node (o_44 P) (.node (o_43 P) (.node (o_43 P) .nil .nil) (.node (o_138 P) .nil .nil)) (.node (o_88 P) (.node (o_120 P) .nil .nil) (.node (o_154 P) .nil .nil))) (.node (o_61 P) (.node (o_77 P) (.node (o_112 P) .nil .nil) (.node (o_43 P) .nil .nil)) (.node (o_96 P) (.node (o_130 P) .nil .nil) .nil))) (.node (o_123 P) (.node (o_57 P) (.node (o_73 P) (.node (o_43 P) .nil .nil) (.node (o_43 P) .nil .nil)) (.node (o_92 P) (.node (o_126 P) .nil .nil) (.node (o_158 P) .nil .nil))) (.node (o_65 P) (.node (o_84 P) (.node (o_44 P) .nil .nil) (.node (o_150 P) .nil .nil)) (.node (o_100 P) (.node (o_134 P) .nil .nil) .nil)))) (.node (boot_o_6 P) (.node (boot_o_10 P) (.node (o_43 P) (.node (o_71 P) (.node (o_106 P) .nil .nil) (.node (o_44 P) .nil .nil)) (.node (o_90 P) (.node (o_43 P) .nil .nil) (.node (o_156 P) .nil .nil))) (.node (o_63 P) (.node (o_82 P) (.node (o_114 P) .nil .nil) (.node (o_148 P) .nil .nil)) (.node (o_98 P) (.node (o_43 P) .nil .nil) .nil))) (.node (o_46 P) (.node (o_59 P) (.node (o_81 P) (.node (o_110 P) .nil .nil) (.node (o_144 P) .nil .nil)) (.node (o_43 P) (.node (o_128 P) .nil .nil) .nil)) (.node (o_44 P) (.node (o_44 P) (.node (o_43 P) .nil .nil) (.node (o_152 P) .nil .nil)) (.node (o_44 P) (.node (o_136 P) .nil .nil) .nil))))))
noncomputable def tree_217 : Params → BT := fun P => (.node (boot_o_0 P) (.node (boot_o_1 P) (.node (o_160 P) (.node (boot_o_7 P) (.node (o_43 P) (.node (o_68 P) (.node (o_103 P) (.node (o_171 P) .nil .nil) .nil) (.node (o_137 P) (.node (o_203 P) .nil .nil) .nil)) (.node (o_87 P) (.node (o_119 P) (.node (o_187 P) .nil .nil) .nil) (.node (o_153 P) .nil .nil))) (.node (o_60 P) (.node (o_76 P) (.node (o_43 P) (.node (o_43 P) .nil .nil) .nil) (.node (o_145 P) (.node (o_43 P) .nil .nil) .nil)) (.node (o_44 P) (.node (o_129 P) (.node (o_195 P) .nil .nil) .nil) (.node (o_60 P) .nil .nil)))) (.node (o_43 P) (.node (o_56 P) (.node (o_72 P) (.node (o_107 P) (.node (o_175 P) .nil .nil) .nil) (.node (o_141 P) (.node (o_207 P) .nil .nil) .nil)) (.node (o_91 P) (.node (o_60 P) (.node (o_44 P) .nil .nil) .nil) (.node (o_157 P) .nil .nil))) (.node (o_64 P) (.node (o_60 P) (.node (o_43 P) (.node (o_43 P) .nil .nil) .nil) (.node (o_43 P) (.node (o_215 P) .nil .nil) .nil)) (.node (o_99 P) (.node (o_44 P) (.node (o_199 P) .nil .nil) .nil) (.node (o_167 P) .nil .nil))))) (.node (boot_o_5 P) (.node (boot_o_9 P) (.node (o_54 P) (.node (o_70 P) (.node (o_105 P) (.node (o_173 P) .nil .nil) .nil) (.node (o_43 P) (.node (o_205 P) .nil .nil) .nil)) (.node (o_43 P) (.node (o_121 P) (.node (o_189 P) .nil .nil) .nil) (.node (o_155 P) .nil .nil))) (.node (o_43 P) (.node (o_78 P) (.node (o_113 P) (.node (o_181 P) .nil .nil) .nil) (.node (o_44 P) (.node (o_213 P) .nil .nil) .nil)) (.node (o_43 P) (.node (o_131 P) (.node (o_43 P) .nil .nil) .nil) (.node (o_43 P) .nil .nil)))) (.node (o_45 P) (.node (o_58 P) (.node (o_74 P) (.node (o_44 P) (.node (o_44 P) .nil .nil) .nil) (.node (o_143 P) (.node (o_209 P) .nil .nil) .nil)) (.node (o_93 P) (.node (o_43 P) (.node (o_43 P) .nil .nil) .nil) (.node (o_159 P) .nil .nil))) (.node (o_43 P) (.node (o_43 P) (.node (o_117 P) (.node (o_185 P) .nil .nil) .nil) (.node (o_151 P) (.node (o_217 P) .nil .nil) .nil)) (.node (o_43 P) (.node (o_43 P) (.node (o_201 P) .nil .nil) .nil) (.node (o_43 P) .nil .nil)))))) (.node (o_49 P) (.node (boot_o_4 P) (.node (boot_o_8 P) (.node (o_44 P) (.node (o_43 P) (.node (o_43 P) (.node (o_43 P) .nil .nil) .nil) (.node (o_138 P) (.node (o_204 P) .nil .nil) .nil)) (.node (o_88 P) (.node (o_120 P) (.node (o_188 P) .nil .nil) .nil) (.node (o_154 P) .nil .nil))) (.node (o_61 P) (.node (o_77 P) (.node (o_112 P) (.node (o_180 P) .nil .nil) .nil) (.node (o_43 P) (.node (o_44 P) .nil .nil) .nil)) (.node (o_96 P) (.node (o_130 P) (.node (o_196 P) .nil .nil) .nil) (.node (o_164 P) .nil .nil)))) (.node (o_161 P) (.node (o_57 P) (.node (o_73 P) (.node (o_43 P) (.node (o_43 P) .nil .nil) .nil) (.node (o_43 P) (.node (o_208 P) .nil .nil) .nil)) (.node (o_92 P) (.node (o_126 P) (.node (o_192 P) .nil .nil) .nil) (.node (o_158 P) .nil .nil))) (.node (o_65 P) (.node (o_84 P) (.node (o_44 P) (.node (o_44 P) .nil .nil) .nil) (.node (o_150 P) (.node (o_216 P) .nil .nil) .nil)) (.node (o_100 P) (.node (o_134 P) (.node (o_43 P) .nil .nil) .nil) (.node (o_168 P) .nil .nil))))) (.node (boot_o_6 P) (.node (boot_o_10 P) (.node (o_43 P) (.node (o_71 P) (.node (o_106 P) (.node (o_174 P) .nil .nil) .nil) (.node (o_44 P) (.node (o_206 P) .nil .nil) .nil)) (.node (o_90 P) (.node (o_43 P) (.node (o_43 P) .nil .nil) .nil) (.node (o_156 P) .nil .nil))) (.node (o_63 P) (.node (o_82 P) (.node (o_114 P) (.node (o_182 P) .nil .nil) .nil) (.node (o_148 P) (.node (o_43 P) .nil .nil) .nil)) (.node (o_98 P) (.node (o_43 P) (.node (o_44 P) .nil .nil) .nil) (.node (o_166 P) .nil .nil)))) (.node (o_46 P) (.node (o_59 P) (.node (o_81 P) (.node (o_110 P) (.node (o_178 P) .nil .nil) .nil) (.node (o_144 P) (.node (o_210 P) .nil .nil) .nil)) (.node (o_43 P) (.node (o_128 P) (.node (o_194 P) .nil .nil) .nil) (.node (o_43 P) .nil .nil))) (.node (o_44 P) (.node (o_44 P) (.node (o_43 P) (.node (o_43 P) .nil .nil) .nil) (.node (o_152 P) .nil .nil)) (.node (o_44 P) (.node (o_136 P) (.node (o_202 P) .nil .nil) .nil) (.node (o_44 P) .nil .nil)))))))
noncomputable def tree_294 : Params → BT := fun P => (.node (boot_o_0 P) (.node (boot_o_1 P) (.node (o_218 P) (.node (boot_o_7 P) (.node (o_43 P) (.node (o_68 P) (.node (o_103 P) (.node (o_171 P) .nil .nil) (.node (o_43 P) .nil .nil)) (.node (o_137 P) (.node (o_203 P) .nil .nil) (.node (o_269 P) .nil .nil))) (.node (o_87 P) (.node (o_119 P) (.node (o_187 P) .nil .nil) (.node (o_253 P) .nil .nil)) (.node (o_153 P) (.node (o_60 P) .nil .nil) (.node (o_285 P) .nil .nil)))) (.node (o_60 P) (.node (o_76 P) (.node (o_43 P) (.node (o_43 P) .nil .nil) (.node (o_245 P) .nil .nil)) (.node (o_145 P) (.node (o_43 P) .nil .nil) (.node (o_43 P) .nil .nil))) (.node (o_44 P) (.node (o_129 P) (.node (o_195 P) .nil .nil) (.node (o_261 P) .nil .nil)) (.node (o_60 P) (.node (o_229 P) .nil .nil) (.node (o_293 P) .nil .nil))))) (.node (o_43 P) (.node (o_56 P) (.node (o_72 P) (.node (o_107 P) (.node (o_175 P) .nil .nil) (.node (o_43 P) .nil .nil)) (.node (o_141 P) (.node (o_207 P) .nil .nil) (.node (o_273 P) .nil .nil))) (.node (o_91 P) (.node (o_60 P) (.node (o_44 P) .nil .nil) (.node (o_257 P) .nil .nil)) (.node (o_157 P) (.node (o_225 P) .nil .nil) (.node (o_289 P) .nil .nil)))) (.node (o_64 P) (.node (o_60 P) (.node (o_43 P) (.node (o_43 P) .nil .nil) (.node (o_44 P) .nil .nil)) (.node (o_43 P) (.node (o_215 P) .nil .nil) (.node (o_43 P) .nil .nil))) (.node (o_99 P) (.node (o_44 P) (.node (o_199 P) .nil .nil) (.node (o_265 P) .nil .nil)) (.node (o_167 P) (.node (o_233 P) .nil .nil) .nil))))) (.node (boot_o_5 P) (.node (boot_o_9 P) (.node (o_54 P) (.node (o_70 P) (.node (o_105 P) (.node (o_173 P) .nil .nil) (.node (o_239 P) .nil .nil)) (.node (o_43 P) (.node (o_205 P) .nil .nil) (.node (o_271 P) .nil .nil))) (.node (o_43 P) (.node (o_121 P) (.node (o_189 P) .nil .nil) (.node (o_43 P) .nil .nil)) (.node (o_155 P) (.node (o_43 P) .nil .nil) (.node (o_287 P) .nil .nil)))) (.node (o_43 P) (.node (o_78 P) (.node (o_113 P) (.node (o_181 P) .nil .nil) (.node (o_247 P) .nil .nil)) (.node (o_44 P) (.node (o_213 P) .nil .nil) (.node (o_279 P) .nil .nil))) (.node (o_43 P) (.node (o_131 P) (.node (o_43 P) .nil .nil) (.node (o_44 P) .nil .nil)) (.node (o_43 P) (.node (o_231 P) .nil .nil) .nil)))) (.node (o_45 P) (.node (o_58 P) (.node (o_74 P) (.node (o_44 P) (.node (o_44 P) .nil .nil) (.node (o_243 P) .nil .nil)) (.node (o_143 P) (.node (o_209 P) .nil .nil) (.node (o_44 P) .nil .nil))) (.node (o_93 P) (.node (o_43 P) (.node (o_43 P) .nil .nil) (.node (o_259 P) .nil .nil)) (.node (o_159 P) (.node (o_43 P) .nil .nil) (.node (o_291 P) .nil .nil)))) (.node (o_43 P) (.node (o_43 P) (.node (o_117 P) (.node (o_185 P) .nil .nil) (.node (o_43 P) .nil .nil)) (.node (o_151 P) (.node (o_217 P) .nil .nil) (.node (o_283 P) .nil .nil))) (.node (o_43 P) (.node (o_43 P) (.node (o_201 P) .nil .nil) (.node (o_43 P) .nil .nil)) (.node (o_43 P) (.node (o_44 P) .nil .nil) .nil)))))) (.node (o_49 P) (.node (boot_o_4 P) (.node (boot_o_8 P) (.node (o_44 P) (.node (o_43 P) (.node (o_43 P) (.node (o_43 P) .nil .nil) (.node (o_238 P) .nil .nil)) (.node (o_138 P) (.node (o_204 P) .nil .nil) (.node (o_43 P) .nil .nil))) (.node (o_88 P) (.node (o_120 P) (.node (o_188 P) .nil .nil) (.node (o_254 P) .nil .nil)) (.node (o_154 P) (.node (o_222 P) .nil .nil) (.node (o_286 P) .nil .nil)))) (.node (o_61 P) (.node (o_77 P) (.node (o_112 P) (.node (o_180 P) .nil .nil) (.node (o_246 P) .nil .nil)) (.node (o_43 P) (.node (o_44 P) .nil .nil) (.node (o_278 P) .nil .nil))) (.node (o_96 P) (.node (o_130 P) (.node (o_196 P) .nil .nil) (.node (o_43 P) .nil .nil)) (.node (o_164 P) (.node (o_43 P) .nil .nil) (.node (o_294 P) .nil .nil))))) (.node (o_219 P) (.node (o_57 P) (.node (o_73 P) (.node (o_43 P) (.node (o_43 P) .nil .nil) (.node (o_44 P) .nil .nil)) (.node (o_43 P) (.node (o_208 P) .nil .nil) (.node (o_43 P) .nil .nil))) (.node (o_92 P) (.node (o_126 P) (.node (o_192 P) .nil .nil) (.node (o_43 P) .nil .nil)) (.node (o_158 P) (.node (o_226 P) .nil .nil) (.node (o_290 P) .nil .nil)))) (.node (o_65 P) (.node (o_84 P) (.node (o_44 P) (.node (o_44 P) .nil .nil) (.node (o_250 P) .nil .nil)) (.node (o_150 P) (.node (o_216 P) .nil .nil) (.node (o_44 P) .nil .nil))) (.node (o_100 P) (.node (o_134 P) (.node (o_43 P) .nil .nil) (.node (o_266 P) .nil .nil)) (.node (o_168 P) (.node (o_43 P) .nil .nil) .nil))))) (.node (boot_o_6 P) (.node (boot_o_10 P) (.node (o_43 P) (.node (o_71 P) (.node (o_106 P) (.node (o_174 P) .nil .nil) (.node (o_240 P) .nil .nil)) (.node (o_44 P) (.node (o_206 P) .nil .nil) (.node (o_272 P) .nil .nil))) (.node (o_90 P) (.node (o_43 P) (.node (o_43 P) .nil .nil) (.node (o_44 P) .nil .nil)) (.node (o_156 P) (.node (o_224 P) .nil .nil) (.node (o_288 P) .nil .nil)))) (.node (o_63 P) (.node (o_82 P) (.node (o_114 P) (.node (o_182 P) .nil .nil) (.node (o_43 P) .nil .nil)) (.node (o_148 P) (.node (o_43 P) .nil .nil) (.node (o_280 P) .nil .nil))) (.node (o_98 P) (.node (o_43 P) (.node (o_44 P) .nil .nil) (.node (o_264 P) .nil .nil)) (.node (o_166 P) (.node (o_232 P) .nil .nil) .nil)))) (.node (o_46 P) (.node (o_59 P) (.node (o_81 P) (.node (o_110 P) (.node (o_178 P) .nil .nil) (.node (o_43 P) .nil .nil)) (.node (o_144 P) (.node (o_210 P) .nil .nil) (.node (o_276 P) .nil .nil))) (.node (o_43 P) (.node (o_128 P) (.node (o_194 P) .nil .nil) (.node (o_260 P) .nil .nil)) (.node (o_43 P) (.node (o_44 P) .nil .nil) (.node (o_292 P) .nil .nil)))) (.node (o_44 P) (.node (o_44 P) (.node (o_43 P) (.node (o_43 P) .nil .nil) (.node (o_252 P) .nil .nil)) (.node (o_152 P) (.node (o_43 P) .nil .nil) (.node (o_43 P) .nil .nil))) (.node (o_44 P) (.node (o_136 P) (.node (o_202 P) .nil .nil) (.node (o_44 P) .nil .nil)) (.node (o_44 P) (.node (o_236 P) .nil .nil) .nil)))))))
noncomputable def tree_376 : Params → BT := fun P => (.node (boot_o_0 P) (.node (boot_o_1 P) (.node (o_295 P) (.node (boot_o_7 P) (.node (o_43 P) (.node (o_68 P) (.node (o_103 P) (.node (o_171 P) (.node (o_303 P) .nil .nil) .nil) (.node (o_43 P) (.node (o_43 P) .nil .nil) .nil)) (.node (o_137 P) (.node (o_203 P) (.node (o_43 P) .nil .nil) .nil) (.node (o_269 P) .nil .nil))) (.node (o_87 P) (.node (o_119 P) (.node (o_187 P) (.node (o_44 P) .nil .nil) .nil) (.node (o_253 P) .nil .nil)) (.node (o_153 P) (.node (o_60 P) (.node (o_351 P) .nil .nil) .nil) (.node (o_285 P) .nil .nil)))) (.node (o_60 P) (.node (o_76 P) (.node (o_43 P) (.node (o_43 P) (.node (o_43 P) .nil .nil) .nil) (.node (o_245 P) (.node (o_375 P) .nil .nil) .nil)) (.node (o_145 P) (.node (o_43 P) (.node (o_343 P) .nil .nil) .nil) (.node (o_43 P) .nil .nil))) (.node (o_44 P) (.node (o_129 P) (.node (o_195 P) (.node (o_327 P) .nil .nil) .nil) (.node (o_261 P) .nil .nil)) (.node (o_60 P) (.node (o_229 P) (.node (o_359 P) .nil .nil) .nil) (.node (o_293 P) .nil .nil))))) (.node (o_43 P) (.node (o_56 P) (.node (o_72 P) (.node (o_107 P) (.node (o_175 P) (.node (o_43 P) .nil .nil) .nil) (.node (o_43 P) (.node (o_371 P) .nil .nil) .nil)) (.node (o_141 P) (.node (o_207 P) (.node (o_43 P) .nil .nil) .nil) (.node (o_273 P) .nil .nil))) (.node (o_91 P) (.node (o_60 P) (.node (o_44 P) (.node (o_323 P) .nil .nil) .nil) (.node (o_257 P) .nil .nil)) (.node (o_157 P) (.node (o_225 P) (.node (o_355 P) .nil .nil) .nil) (.node (o_289 P) .nil .nil)))) (.node (o_64 P) (.node (o_60 P) (.node (o_43 P) (.node (o_43 P) (.node (o_315 P) .nil .nil) .nil) (.node (o_44 P) .nil .nil)) (.node (o_43 P) (.node (o_215 P) (.node (o_44 P) .nil .nil) .nil) (.node (o_43 P) .nil .nil))) (.node (o_99 P) (.node (o_44 P) (.node (o_199 P) (.node (o_331 P) .nil .nil) .nil) (.node (o_265 P) .nil .nil)) (.node (o_167 P) (.node (o_233 P) (.node (o_43 P) .nil .nil) .nil) (.node (o_299 P) .nil .nil)))))) (.node (boot_o_5 P) (.node (boot_o_9 P) (.node (o_54 P) (.node (o_70 P) (.node (o_105 P) (.node (o_173 P) (.node (o_44 P) .nil .nil) .nil) (.node (o_239 P) (.node (o_369 P) .nil .nil) .nil)) (.node (o_43 P) (.node (o_205 P) (.node (o_337 P) .nil .nil) .nil) (.node (o_271 P) .nil .nil))) (.node (o_43 P) (.node (o_121 P) (.node (o_189 P) (.node (o_43 P) .nil .nil) .nil) (.node (o_43 P) .nil .nil)) (.node (o_155 P) (.node (o_43 P) (.node (o_43 P) .nil .nil) .nil) (.node (o_287 P) .nil .nil)))) (.node (o_43 P) (.node (o_78 P) (.node (o_113 P) (.node (o_181 P) (.node (o_313 P) .nil .nil) .nil) (.node (o_247 P) .nil .nil)) (.node (o_44 P) (.node (o_213 P) (.node (o_345 P) .nil .nil) .nil) (.node (o_279 P) .nil .nil))) (.node (o_43 P) (.node (o_131 P) (.node (o_43 P) (.node (o_329 P) .nil .nil) .nil) (.node (o_44 P) .nil .nil)) (.node (o_43 P) (.node (o_231 P) (.node (o_44 P) .nil .nil) .nil) (.node (o_43 P) .nil .nil))))) (.node (o_45 P) (.node (o_58 P) (.node (o_74 P) (.node (o_44 P) (.node (o_44 P) (.node (o_309 P) .nil .nil) .nil) (.node (o_243 P) (.node (o_44 P) .nil .nil) .nil)) (.node (o_143 P) (.node (o_209 P) (.node (o_341 P) .nil .nil) .nil) (.node (o_44 P) .nil .nil))) (.node (o_93 P) (.node (o_43 P) (.node (o_43 P) (.node (o_43 P) .nil .nil) .nil) (.node (o_259 P) .nil .nil)) (.node (o_159 P) (.node (o_43 P) (.node (o_357 P) .nil .nil) .nil) (.node (o_291 P) .nil .nil)))) (.node (o_43 P) (.node (o_43 P) (.node (o_117 P) (.node (o_185 P) (.node (o_317 P) .nil .nil) .nil) (.node (o_43 P) .nil .nil)) (.node (o_151 P) (.node (o_217 P) (.node (o_43 P) .nil .nil) .nil) (.node (o_283 P) .nil .nil))) (.node (o_43 P) (.node (o_43 P) (.node (o_201 P) (.node (o_44 P) .nil .nil) .nil) (.node (o_43 P) .nil .nil)) (.node (o_43 P) (.node (o_44 P) (.node (o_365 P) .nil .nil) .nil) (.node (o_301 P) .nil .nil))))))) (.node (o_49 P) (.node (boot_o_4 P) (.node (boot_o_8 P) (.node (o_44 P) (.node (o_43 P) (.node (o_43 P) (.node (o_43 P) (.node (o_43 P) .nil .nil) .nil) (.node (o_238 P) (.node (o_44 P) .nil .nil) .nil)) (.node (o_138 P) (.node (o_204 P) (.node (o_336 P) .nil .nil) .nil) (.node (o_43 P) .nil .nil))) (.node (o_88 P) (.node (o_120 P) (.node (o_188 P) (.node (o_320 P) .nil .nil) .nil) (.node (o_254 P) .nil .nil)) (.node (o_154 P) (.node (o_222 P) (.node (o_352 P) .nil .nil) .nil) (.node (o_286 P) .nil .nil)))) (.node (o_61 P) (.node (o_77 P) (.node (o_112 P) (.node (o_180 P) (.node (o_44 P) .nil .nil) .nil) (.node (o_246 P) (.node (o_376 P) .nil .nil) .nil)) (.node (o_43 P) (.node (o_44 P) (.node (o_344 P) .nil .nil) .nil) (.node (o_278 P) .nil .nil))) (.node (o_96 P) (.node (o_130 P) (.node (o_196 P) (.node (o_43 P) .nil .nil) .nil) (.node (o_43 P) .nil .nil)) (.node (o_164 P) (.node (o_43 P) (.node (o_43 P) .nil .nil) .nil) (.node (o_294 P) .nil .nil))))) (.node (o_296 P) (.node (o_57 P) (.node (o_73 P) (.node (o_43 P) (.node (o_43 P) (.node (o_308 P) .nil .nil) .nil) (.node (o_44 P) (.node (o_43 P) .nil .nil) .nil)) (.node (o_43 P) (.node (o_208 P) (.node (o_44 P) .nil .nil) .nil) (.node (o_43 P) .nil .nil))) (.node (o_92 P) (.node (o_126 P) (.node (o_192 P) (.node (o_324 P) .nil .nil) .nil) (.node (o_43 P) .nil .nil)) (.node (o_158 P) (.node (o_226 P) (.node (o_43 P) .nil .nil) .nil) (.node (o_290 P) .nil .nil)))) (.node (o_65 P) (.node (o_84 P) (.node (o_44 P) (.node (o_44 P) (.node (o_316 P) .nil .nil) .nil) (.node (o_250 P) .nil .nil)) (.node (o_150 P) (.node (o_216 P) (.node (o_348 P) .nil .nil) .nil) (.node (o_44 P) .nil .nil))) (.node (o_100 P) (.node (o_134 P) (.node (o_43 P) (.node (o_43 P) .nil .nil) .nil) (.node (o_266 P) .nil .nil)) (.node (o_168 P) (.node (o_43 P) (.node (o_364 P) .nil .nil) .nil) (.node (o_43 P) .nil .nil)))))) (.node (boot_o_6 P) (.node (boot_o_10 P) (.node (o_43 P) (.node (o_71 P) (.node (o_106 P) (.node (o_174 P) (.node (o_306 P) .nil .nil) .nil) (.node (o_240 P) (.node (o_370 P) .nil .nil) .nil)) (.node (o_44 P) (.node (o_206 P) (.node (o_338 P) .nil .nil) .nil) (.node (o_272 P) .nil .nil))) (.node (o_90 P) (.node (o_43 P) (.node (o_43 P) (.node (o_322 P) .nil .nil) .nil) (.node (o_44 P) .nil .nil)) (.node (o_156 P) (.node (o_224 P) (.node (o_44 P) .nil .nil) .nil) (.node (o_288 P) .nil .nil)))) (.node (o_63 P) (.node (o_82 P) (.node (o_114 P) (.node (o_182 P) (.node (o_43 P) .nil .nil) .nil) (.node (o_43 P) .nil .nil)) (.node (o_148 P) (.node (o_43 P) (.node (o_43 P) .nil .nil) .nil) (.node (o_280 P) .nil .nil))) (.node (o_98 P) (.node (o_43 P) (.node (o_44 P) (.node (o_330 P) .nil .nil) .nil) (.node (o_264 P) .nil .nil)) (.node (o_166 P) (.node (o_232 P) (.node (o_362 P) .nil .nil) .nil) (.node (o_44 P) .nil .nil))))) (.node (o_46 P) (.node (o_59 P) (.node (o_81 P) (.node (o_110 P) (.node (o_178 P) (.node (o_310 P) .nil .nil) .nil) (.node (o_43 P) (.node (o_374 P) .nil .nil) .nil)) (.node (o_144 P) (.node (o_210 P) (.node (o_43 P) .nil .nil) .nil) (.node (o_276 P) .nil .nil))) (.node (o_43 P) (.node (o_128 P) (.node (o_194 P) (.node (o_44 P) .nil .nil) .nil) (.node (o_260 P) .nil .nil)) (.node (o_43 P) (.node (o_44 P) (.node (o_358 P) .nil .nil) .nil) (.node (o_292 P) .nil .nil)))) (.node (o_44 P) (.node (o_44 P) (.node (o_43 P) (.node (o_43 P) (.node (o_43 P) .nil .nil) .nil) (.node (o_252 P) .nil .nil)) (.node (o_152 P) (.node (o_43 P) (.node (o_350 P) .nil .nil) .nil) (.node (o_43 P) .nil .nil))) (.node (o_44 P) (.node (o_136 P) (.node (o_202 P) (.node (o_334 P) .nil .nil) .nil) (.node (o_44 P) .nil .nil)) (.node (o_44 P) (.node (o_236 P) (.node (o_366 P) .nil .nil) .nil) (.node (o_302 P) .nil .nil))))))))
noncomputable def tree_392 : Params → BT := fun P => (.node (boot_o_0 P) (.node (boot_o_1 P) (.node (o_377 P) (.node (boot_o_7 P) (.node (o_43 P) (.node (o_68 P) (.node (o_103 P) (.node (o_171 P) (.node (o_303 P) .nil .nil) .nil) (.node (o_43 P) (.node (o_43 P) .nil .nil) .nil)) (.node (o_137 P) (.node (o_203 P) (.node (o_43 P) .nil .nil) .nil) (.node (o_269 P) .nil .nil))) (.node (o_87 P) (.node (o_119 P) (.node (o_187 P) (.node (o_44 P) .nil .nil) .nil) (.node (o_253 P) (.node (o_385 P) .nil .nil) .nil)) (.node (o_153 P) (.node (o_60 P) (.node (o_351 P) .nil .nil) .nil) (.node (o_285 P) .nil .nil)))) (.node (o_60 P) (.node (o_76 P) (.node (o_43 P) (.node (o_43 P) (.node (o_43 P) .nil .nil) .nil) (.node (o_245 P) (.node (o_375 P) .nil .nil) .nil)) (.node (o_145 P) (.node (o_43 P) (.node (o_343 P) .nil .nil) .nil) (.node (o_43 P) .nil .nil))) (.node (o_44 P) (.node (o_129 P) (.node (o_195 P) (.node (o_327 P) .nil .nil) .nil) (.node (o_261 P) .nil .nil)) (.node (o_60 P) (.node (o_229 P) (.node (o_359 P) .nil .nil) .nil) (.node (o_293 P) .nil .nil))))) (.node (o_43 P) (.node (o_56 P) (.node (o_72 P) (.node (o_107 P) (.node (o_175 P) (.node (o_43 P) .nil .nil) .nil) (.node (o_43 P) (.node (o_371 P) .nil .nil) .nil)) (.node (o_141 P) (.node (o_207 P) (.node (o_43 P) .nil .nil) .nil) (.node (o_273 P) .nil .nil))) (.node (o_91 P) (.node (o_60 P) (.node (o_44 P) (.node (o_323 P) .nil .nil) .nil) (.node (o_257 P) (.node (o_43 P) .nil .nil) .nil)) (.node (o_157 P) (.node (o_225 P) (.node (o_355 P) .nil .nil) .nil) (.node (o_289 P) .nil .nil)))) (.node (o_64 P) (.node (o_60 P) (.node (o_43 P) (.node (o_43 P) (.node (o_315 P) .nil .nil) .nil) (.node (o_44 P) (.node (o_381 P) .nil .nil) .nil)) (.node (o_43 P) (.node (o_215 P) (.node (o_44 P) .nil .nil) .nil) (.node (o_43 P) .nil .nil))) (.node (o_99 P) (.node (o_44 P) (.node (o_199 P) (.node (o_331 P) .nil .nil) .nil) (.node (o_265 P) .nil .nil)) (.node (o_167 P) (.node (o_233 P) (.node (o_43 P) .nil .nil) .nil) (.node (o_299 P) .nil .nil)))))) (.node (boot_o_5 P) (.node (boot_o_9 P) (.node (o_54 P) (.node (o_70 P) (.node (o_105 P) (.node (o_173 P) (.node (o_44 P) .nil .nil) .nil) (.node (o_239 P) (.node (o_369 P) .nil .nil) .nil)) (.node (o_43 P) (.node (o_205 P) (.node (o_337 P) .nil .nil) .nil) (.node (o_271 P) .nil .nil))) (.node (o_43 P) (.node (o_121 P) (.node (o_189 P) (.node (o_43 P) .nil .nil) .nil) (.node (o_43 P) (.node (o_44 P) .nil .nil) .nil)) (.node (o_155 P) (.node (o_43 P) (.node (o_43 P) .nil .nil) .nil) (.node (o_287 P) .nil .nil)))) (.node (o_43 P) (.node (o_78 P) (.node (o_113 P) (.node (o_181 P) (.node (o_313 P) .nil .nil) .nil) (.node (o_247 P) (.node (o_43 P) .nil .nil) .nil)) (.node (o_44 P) (.node (o_213 P) (.node (o_345 P) .nil .nil) .nil) (.node (o_279 P) .nil .nil))) (.node (o_43 P) (.node (o_131 P) (.node (o_43 P) (.node (o_329 P) .nil .nil) .nil) (.node (o_44 P) .nil .nil)) (.node (o_43 P) (.node (o_231 P) (.node (o_44 P) .nil .nil) .nil) (.node (o_43 P) .nil .nil))))) (.node (o_45 P) (.node (o_58 P) (.node (o_74 P) (.node (o_44 P) (.node (o_44 P) (.node (o_309 P) .nil .nil) .nil) (.node (o_243 P) (.node (o_44 P) .nil .nil) .nil)) (.node (o_143 P) (.node (o_209 P) (.node (o_341 P) .nil .nil) .nil) (.node (o_44 P) .nil .nil))) (.node (o_93 P) (.node (o_43 P) (.node (o_43 P) (.node (o_43 P) .nil .nil) .nil) (.node (o_259 P) (.node (o_391 P) .nil .nil) .nil)) (.node (o_159 P) (.node (o_43 P) (.node (o_357 P) .nil .nil) .nil) (.node (o_291 P) .nil .nil)))) (.node (o_43 P) (.node (o_43 P) (.node (o_117 P) (.node (o_185 P) (.node (o_317 P) .nil .nil) .nil) (.node (o_43 P) (.node (o_383 P) .nil .nil) .nil)) (.node (o_151 P) (.node (o_217 P) (.node (o_43 P) .nil .nil) .nil) (.node (o_283 P) .nil .nil))) (.node (o_43 P) (.node (o_43 P) (.node (o_201 P) (.node (o_44 P) .nil .nil) .nil) (.node (o_43 P) .nil .nil)) (.node (o_43 P) (.node (o_44 P) (.node (o_365 P) .nil .nil) .nil) (.node (o_301 P) .nil .nil))))))) (.node (o_49 P) (.node (boot_o_4 P) (.node (boot_o_8 P) (.node (o_44 P) (.node (o_43 P) (.node (o_43 P) (.node (o_43 P) (.node (o_43 P) .nil .nil) .nil) (.node (o_238 P) (.node (o_44 P) .nil .nil) .nil)) (.node (o_138 P) (.node (o_204 P) (.node (o_336 P) .nil .nil) .nil) (.node (o_43 P) .nil .nil))) (.node (o_88 P) (.node (o_120 P) (.node (o_188 P) (.node (o_320 P) .nil .nil) .nil) (.node (o_254 P) (.node (o_43 P) .nil .nil) .nil)) (.node (o_154 P) (.node (o_222 P) (.node (o_352 P) .nil .nil) .nil) (.node (o_286 P) .nil .nil)))) (.node (o_61 P) (.node (o_77 P) (.node (o_112 P) (.node (o_180 P) (.node (o_44 P) .nil .nil) .nil) (.node (o_246 P) (.node (o_376 P) .nil .nil) .nil)) (.node (o_43 P) (.node (o_44 P) (.node (o_344 P) .nil .nil) .nil) (.node (o_278 P) .nil .nil))) (.node (o_96 P) (.node (o_130 P) (.node (o_196 P) (.node (o_43 P) .nil .nil) .nil) (.node (o_43 P) .nil .nil)) (.node (o_164 P) (.node (o_43 P) (.node (o_43 P) .nil .nil) .nil) (.node (o_294 P) .nil .nil))))) (.node (o_378 P) (.node (o_57 P) (.node (o_73 P) (.node (o_43 P) (.node (o_43 P) (.node (o_308 P) .nil .nil) .nil) (.node (o_44 P) (.node (o_43 P) .nil .nil) .nil)) (.node (o_43 P) (.node (o_208 P) (.node (o_44 P) .nil .nil) .nil) (.node (o_43 P) .nil .nil))) (.node (o_92 P) (.node (o_126 P) (.node (o_192 P) (.node (o_324 P) .nil .nil) .nil) (.node (o_43 P) (.node (o_390 P) .nil .nil) .nil)) (.node (o_158 P) (.node (o_226 P) (.node (o_43 P) .nil .nil) .nil) (.node (o_290 P) .nil .nil)))) (.node (o_65 P) (.node (o_84 P) (.node (o_44 P) (.node (o_44 P) (.node (o_316 P) .nil .nil) .nil) (.node (o_250 P) (.node (o_43 P) .nil .nil) .nil)) (.node (o_150 P) (.node (o_216 P) (.node (o_348 P) .nil .nil) .nil) (.node (o_44 P) .nil .nil))) (.node (o_100 P) (.node (o_134 P) (.node (o_43 P) (.node (o_43 P) .nil .nil) .nil) (.node (o_266 P) .nil .nil)) (.node (o_168 P) (.node (o_43 P) (.node (o_364 P) .nil .nil) .nil) (.node (o_43 P) .nil .nil)))))) (.node (boot_o_6 P) (.node (boot_o_10 P) (.node (o_43 P) (.node (o_71 P) (.node (o_106 P) (.node (o_174 P) (.node (o_306 P) .nil .nil) .nil) (.node (o_240 P) (.node (o_370 P) .nil .nil) .nil)) (.node (o_44 P) (.node (o_206 P) (.node (o_338 P) .nil .nil) .nil) (.node (o_272 P) .nil .nil))) (.node (o_90 P) (.node (o_43 P) (.node (o_43 P) (.node (o_322 P) .nil .nil) .nil) (.node (o_44 P) (.node (o_388 P) .nil .nil) .nil)) (.node (o_156 P) (.node (o_224 P) (.node (o_44 P) .nil .nil) .nil) (.node (o_288 P) .nil .nil)))) (.node (o_63 P) (.node (o_82 P) (.node (o_114 P) (.node (o_182 P) (.node (o_43 P) .nil .nil) .nil) (.node (o_43 P) (.node (o_44 P) .nil .nil) .nil)) (.node (o_148 P) (.node (o_43 P) (.node (o_43 P) .nil .nil) .nil) (.node (o_280 P) .nil .nil))) (.node (o_98 P) (.node (o_43 P) (.node (o_44 P) (.node (o_330 P) .nil .nil) .nil) (.node (o_264 P) .nil .nil)) (.node (o_166 P) (.node (o_232 P) (.node (o_362 P) .nil .nil) .nil) (.node (o_44 P) .nil .nil))))) (.node (o_46 P) (.node (o_59 P) (.node (o_81 P) (.node (o_110 P) (.node (o_178 P) (.node (o_310 P) .nil .nil) .nil) (.node (o_43 P) (.node (o_374 P) .nil .nil) .nil)) (.node (o_144 P) (.node (o_210 P) (.node (o_43 P) .nil .nil) .nil) (.node (o_276 P) .nil .nil))) (.node (o_43 P) (.node (o_128 P) (.node (o_194 P) (.node (o_44 P) .nil .nil) .nil) (.node (o_260 P) (.node (o_392 P) .nil .nil) .nil)) (.node (o_43 P) (.node (o_44 P) (.node (o_358 P) .nil .nil) .nil) (.node (o_292 P) .nil .nil)))) (.node (o_44 P) (.node (o_44 P) (.node (o_43 P) (.node (o_43 P) (.node (o_43 P) .nil .nil) .nil) (.node (o_252 P) (.node (o_384 P) .nil .nil) .nil)) (.node (o_152 P) (.node (o_43 P) (.node (o_350 P) .nil .nil) .nil) (.node (o_43 P) .nil .nil))) (.node (o_44 P) (.node (o_136 P) (.node (o_202 P) (.node (o_334 P) .nil .nil) .nil) (.node (o_44 P) .nil .nil)) (.node (o_44 P) (.node (o_236 P) (.node (o_366 P) .nil .nil) .nil) (.node (o_302 P) .nil .nil))))))))
noncomputable def heap_39 : Params → Frag := fun P => ((nat_lit 2, o_49 P) :: (nat_lit 3, o_377 P) :: (nat_lit 15, o_43 P) :: (nat_lit 17, o_54 P) :: (nat_lit 18, o_43 P) :: (nat_lit 20, o_57 P) :: (nat_lit 21, o_58 P) :: (nat_lit 22, o_59 P) :: (nat_lit 29, o_43 P) :: (nat_lit 31, o_68 P) :: (nat_lit 32, o_43 P) :: (nat_lit 34, o_71 P) :: (nat_lit 35, o_72 P) :: (nat_lit 36, o_73 P) :: (nat_lit 37, o_74 P) :: (nat_lit 38, o_81 P) :: (nat_lit 39, o_76 P) :: (nat_lit 42, o_82 P) :: (nat_lit 49, o_43 P) :: (nat_lit 50, o_90 P) :: (nat_lit 51, o_91 P) :: (nat_lit 54, o_43 P) :: (nat_lit 56, o_96 P) :: (nat_lit 57, o_43 P) :: (nat_lit 59, o_99 P) :: (nat_lit 60, o_100 P) :: (nat_lit 61, o_43 P) :: (nat_lit 63, o_103 P) :: (nat_lit 64, o_43 P) :: (nat_lit 66, o_106 P) :: (nat_lit 67, o_107 P) :: (nat_lit 68, o_43 P) :: (nat_lit 70, o_110 P) :: (nat_lit 71, o_43 P) :: (nat_lit 73, o_113 P) :: (nat_lit 74, o_114 P) :: (nat_lit 75, o_43 P) :: (nat_lit 77, o_117 P) :: (nat_lit 78, o_43 P) :: (nat_lit 80, o_120 P) :: (nat_lit 81, o_121 P) :: (nat_lit 89, o_131 P) :: (nat_lit 90, o_43 P) :: (nat_lit 92, o_134 P) :: (nat_lit 93, o_43 P) :: (nat_lit 95, o_137 P) :: (nat_lit 96, o_138 P) :: (nat_lit 97, o_43 P) :: (nat_lit 99, o_141 P) :: (nat_lit 100, o_43 P) :: (nat_lit 102, o_144 P) :: (nat_lit 103, o_145 P) :: (nat_lit 104, o_43 P) :: (nat_lit 106, o_148 P) :: (nat_lit 107, o_43 P) :: (nat_lit 109, o_151 P) :: (nat_lit 110, o_152 P) :: (nat_lit 111, o_153 P) :: (nat_lit 112, o_154 P) :: (nat_lit 113, o_155 P) :: (nat_lit 114, o_156 P) :: (nat_lit 115, o_157 P) :: (nat_lit 125, o_43 P) :: (nat_lit 127, o_171 P) :: (nat_lit 128, o_43 P) :: (nat_lit 130, o_174 P) :: (nat_lit 131, o_175 P) :: (nat_lit 132, o_43 P) :: (nat_lit 134, o_178 P) :: (nat_lit 135, o_43 P) :: (nat_lit 137, o_181 P) :: (nat_lit 138, o_182 P) :: (nat_lit 139, o_43 P) :: (nat_lit 141, o_185 P) :: (nat_lit 142, o_43 P) :: (nat_lit 144, o_188 P) :: (nat_lit 145, o_189 P) :: (nat_lit 146, o_43 P) :: (nat_lit 148, o_192 P) :: (nat_lit 149, o_43 P) :: (nat_lit 151, o_195 P) :: (nat_lit 152, o_196 P) :: (nat_lit 153, o_43 P) :: (nat_lit 155, o_199 P) :: (nat_lit 156, o_43 P) :: (nat_lit 158, o_202 P) :: (nat_lit 159, o_203 P) :: (nat_lit 160, o_204 P) :: (nat_lit 161, o_205 P) :: (nat_lit 162, o_206 P) :: (nat_lit 163, o_207 P) :: (nat_lit 164, o_208 P) :: (nat_lit 167, o_43 P) :: (nat_lit 169, o_213 P) :: (nat_lit 170, o_43 P) :: (nat_lit 172, o_216 P) :: (nat_lit 173, o_217 P) :: (nat_lit 181, o_43 P) :: (nat_lit 183, o_229 P) :: (nat_lit 184, o_43 P) :: (nat_lit 186, o_232 P) :: (nat_lit 187, o_233 P) :: (nat_lit 188, o_43 P) :: (nat_lit 190, o_236 P) :: (nat_lit 191, o_43 P) :: (nat_lit 193, o_239 P) :: (nat_lit 194, o_240 P) :: (nat_lit 195, o_43 P) :: (nat_lit 197, o_243 P) :: (nat_lit 198, o_43 P) :: (nat_lit 200, o_246 P) :: (nat_lit 201, o_247 P) :: (nat_lit 202, o_43 P) :: (nat_lit 204, o_250 P) :: (nat_lit 205, o_43 P) :: (nat_lit 207, o_253 P) :: (nat_lit 208, o_254 P) :: (nat_lit 209, o_43 P) :: (nat_lit 211, o_257 P) :: (nat_lit 212, o_43 P) :: (nat_lit 214, o_260 P) :: (nat_lit 215, o_261 P) :: (nat_lit 216, o_43 P) :: (nat_lit 219, o_265 P) :: (nat_lit 220, o_266 P) :: (nat_lit 221, o_43 P) :: (nat_lit 223, o_269 P) :: (nat_lit 224, o_43 P) :: (nat_lit 226, o_272 P) :: (nat_lit 227, o_273 P) :: (nat_lit 228, o_43 P) :: (nat_lit 230, o_276 P) :: (nat_lit 231, o_43 P) :: (nat_lit 233, o_279 P) :: (nat_lit 234, o_280 P) :: (nat_lit 235, o_43 P) :: (nat_lit 237, o_283 P) :: (nat_lit 238, o_43 P) :: (nat_lit 240, o_286 P) :: (nat_lit 241, o_287 P) :: (nat_lit 242, o_288 P) :: (nat_lit 243, o_289 P) :: (nat_lit 244, o_290 P) :: (nat_lit 245, o_291 P) :: (nat_lit 246, o_292 P) :: (nat_lit 249, o_43 P) :: (nat_lit 251, o_299 P) :: (nat_lit 252, o_43 P) :: (nat_lit 254, o_302 P) :: (nat_lit 255, o_303 P) :: (nat_lit 256, o_43 P) :: (nat_lit 258, o_306 P) :: (nat_lit 259, o_43 P) :: (nat_lit 261, o_309 P) :: (nat_lit 262, o_310 P) :: (nat_lit 263, o_43 P) :: (nat_lit 265, o_313 P) :: (nat_lit 266, o_43 P) :: (nat_lit 268, o_316 P) :: (nat_lit 269, o_317 P) :: (nat_lit 270, o_43 P) :: (nat_lit 272, o_320 P) :: (nat_lit 273, o_43 P) :: (nat_lit 275, o_323 P) :: (nat_lit 276, o_324 P) :: (nat_lit 277, o_43 P) :: (nat_lit 279, o_327 P) :: (nat_lit 280, o_43 P) :: (nat_lit 282, o_330 P) :: (nat_lit 283, o_331 P) :: (nat_lit 284, o_43 P) :: (nat_lit 286, o_334 P) :: (nat_lit 287, o_43 P) :: (nat_lit 289, o_337 P) :: (nat_lit 290, o_338 P) :: (nat_lit 291, o_43 P) :: (nat_lit 293, o_341 P) :: (nat_lit 294, o_43 P) :: (nat_lit 296, o_344 P) :: (nat_lit 297, o_345 P) :: (nat_lit 298, o_43 P) :: (nat_lit 300, o_348 P) :: (nat_lit 301, o_43 P) :: (nat_lit 303, o_351 P) :: (nat_lit 304, o_352 P) :: (nat_lit 305, o_43 P) :: (nat_lit 307, o_355 P) :: (nat_lit 308, o_43 P) :: (nat_lit 310, o_358 P) :: (nat_lit 311, o_359 P) :: (nat_lit 312, o_43 P) :: (nat_lit 314, o_362 P) :: (nat_lit 315, o_43 P) :: (nat_lit 317, o_365 P) :: (nat_lit 318, o_366 P) :: (nat_lit 319, o_43 P) :: (nat_lit 322, o_370 P) :: (nat_lit 323, o_371 P) :: (nat_lit 324, o_43 P) :: (nat_lit 327, o_375 P) :: (nat_lit 328, o_376 P) :: (nat_lit 329, o_43 P) :: (nat_lit 331, o_381 P) :: (nat_lit 332, o_43 P) :: (nat_lit 334, o_384 P) :: (nat_lit 335, o_385 P) :: (nat_lit 336, o_43 P) :: (nat_lit 338, o_388 P) :: (nat_lit 339, o_43 P) :: (nat_lit 341, o_391 P) :: (nat_lit 342, o_392 P) :: [])
noncomputable def heap_46 : Params → Heap := fun P => ⟨#[(boot_o_0 P), (boot_o_1 P), (boot_o_2 P), (boot_o_3 P), (boot_o_4 P), (boot_o_5 P), (boot_o_6 P), (boot_o_7 P), (boot_o_8 P), (boot_o_9 P), (boot_o_10 P), (o_43 P), (o_44 P), (o_45 P), (o_46 P)], ⟨[], [], [], 0, [], [], false, #[], [], 0, false, false, false, 0, [2000, 10, 10], false, 0, true, [], [], 0, false⟩⟩
noncomputable def heap_393 : Params → Heap := fun P => ⟨#[(boot_o_0 P), (boot_o_1 P), (o_49 P), (o_377 P), (boot_o_4 P), (boot_o_5 P), (boot_o_6 P), (boot_o_7 P), (boot_o_8 P), (boot_o_9 P), (boot_o_10 P), (o_43 P), (o_378 P), (o_45 P), (o_46 P), (o_43 P), (o_44 P), (o_54 P), (o_43 P), (o_56 P), (o_57 P), (o_58 P), (o_59 P), (o_60 P), (o_61 P), (o_43 P), (o_63 P), (o_64 P), (o_65 P), (o_43 P), (o_44 P), (o_68 P), (o_43 P), (o_70 P), (o_71 P), (o_72 P), (o_73 P), (o_74 P), (o_81 P), (o_76 P), (o_77 P), (o_78 P), (o_82 P), (o_60 P), (o_84 P), (o_43 P), (o_44 P), (o_87 P), (o_88 P), (o_43 P), (o_90 P), (o_91 P), (o_92 P), (o_93 P), (o_43 P), (o_44 P), (o_96 P), (o_43 P), (o_98 P), (o_99 P), (o_100 P), (o_43 P), (o_44 P), (o_103 P), (o_43 P), (o_105 P), (o_106 P), (o_107 P), (o_43 P), (o_44 P), (o_110 P), (o_43 P), (o_112 P), (o_113 P), (o_114 P), (o_43 P), (o_44 P), (o_117 P), (o_43 P), (o_119 P), (o_120 P), (o_121 P), (o_43 P), (o_60 P), (o_126 P), (o_43 P), (o_128 P), (o_129 P), (o_130 P), (o_131 P), (o_43 P), (o_44 P), (o_134 P), (o_43 P), (o_136 P), (o_137 P), (o_138 P), (o_43 P), (o_44 P), (o_141 P), (o_43 P), (o_143 P), (o_144 P), (o_145 P), (o_43 P), (o_44 P), (o_148 P), (o_43 P), (o_150 P), (o_151 P), (o_152 P), (o_153 P), (o_154 P), (o_155 P), (o_156 P), (o_157 P), (o_158 P), (o_159 P), (o_43 P), (o_60 P), (o_164 P), (o_43 P), (o_166 P), (o_167 P), (o_168 P), (o_43 P), (o_44 P), (o_171 P), (o_43 P), (o_173 P), (o_174 P), (o_175 P), (o_43 P), (o_44 P), (o_178 P), (o_43 P), (o_180 P), (o_181 P), (o_182 P), (o_43 P), (o_44 P), (o_185 P), (o_43 P), (o_187 P), (o_188 P), (o_189 P), (o_43 P), (o_44 P), (o_192 P), (o_43 P), (o_194 P), (o_195 P), (o_196 P), (o_43 P), (o_44 P), (o_199 P), (o_43 P), (o_201 P), (o_202 P), (o_203 P), (o_204 P), (o_205 P), (o_206 P), (o_207 P), (o_208 P), (o_209 P), (o_210 P), (o_43 P), (o_44 P), (o_213 P), (o_43 P), (o_215 P), (o_216 P), (o_217 P), (o_43 P), (o_60 P), (o_222 P), (o_43 P), (o_224 P), (o_225 P), (o_226 P), (o_43 P), (o_44 P), (o_229 P), (o_43 P), (o_231 P), (o_232 P), (o_233 P), (o_43 P), (o_44 P), (o_236 P), (o_43 P), (o_238 P), (o_239 P), (o_240 P), (o_43 P), (o_44 P), (o_243 P), (o_43 P), (o_245 P), (o_246 P), (o_247 P), (o_43 P), (o_44 P), (o_250 P), (o_43 P), (o_252 P), (o_253 P), (o_254 P), (o_43 P), (o_44 P), (o_257 P), (o_43 P), (o_259 P), (o_260 P), (o_261 P), (o_43 P), (o_44 P), (o_264 P), (o_265 P), (o_266 P), (o_43 P), (o_44 P), (o_269 P), (o_43 P), (o_271 P), (o_272 P), (o_273 P), (o_43 P), (o_44 P), (o_276 P), (o_43 P), (o_278 P), (o_279 P), (o_280 P), (o_43 P), (o_44 P), (o_283 P), (o_43 P), (o_285 P), (o_286 P), (o_287 P), (o_288 P), (o_289 P), (o_290 P), (o_291 P), (o_292 P), (o_293 P), (o_294 P), (o_43 P), (o_44 P), (o_299 P), (o_43 P), (o_301 P), (o_302 P), (o_303 P), (o_43 P), (o_44 P), (o_306 P), (o_43 P), (o_308 P), (o_309 P), (o_310 P), (o_43 P), (o_44 P), (o_313 P), (o_43 P), (o_315 P), (o_316 P), (o_317 P), (o_43 P), (o_44 P), (o_320 P), (o_43 P), (o_322 P), (o_323 P), (o_324 P), (o_43 P), (o_44 P), (o_327 P), (o_43 P), (o_329 P), (o_330 P), (o_331 P), (o_43 P), (o_44 P), (o_334 P), (o_43 P), (o_336 P), (o_337 P), (o_338 P), (o_43 P), (o_44 P), (o_341 P), (o_43 P), (o_343 P), (o_344 P), (o_345 P), (o_43 P), (o_44 P), (o_348 P), (o_43 P), (o_350 P), (o_351 P), (o_352 P), (o_43 P), (o_44 P), (o_355 P), (o_43 P), (o_357 P), (o_358 P), (o_359 P), (o_43 P), (o_44 P), (o_362 P), (o_43 P), (o_364 P), (o_365 P), (o_366 P), (o_43 P), (o_44 P), (o_369 P), (o_370 P), (o_371 P), (o_43 P), (o_44 P), (o_374 P), (o_375 P), (o_376 P), (o_43 P), (o_44 P), (o_381 P), (o_43 P), (o_383 P), (o_384 P), (o_385 P), (o_43 P), (o_44 P), (o_388 P), (o_43 P), (o_390 P), (o_391 P), (o_392 P)], ⟨[], [], [], 0, [], [], false, #[], [], 0, false, false, false, 0, [2000, 10, 10], false, 0, true, [], [], 0, false⟩⟩
/-! the run -/
abbrev pos0 : Pos := ⟨0, 0, 0, 0⟩
abbrev bd : List Stmt := behindTheImports PP
noncomputable abbrev cd0 : Code := Code.body bd env_41
abbrev fr0 : List PySem.Frame := [topFrame pos0]
abbrev an6 : Option Value := some (.ref 6)
abbrev sT (t : Params → BT) (n k : Nat) (w : World) (os : OsState) : SharedT := ⟨t w.params, n, {}, #[], {}, k, os⟩
noncomputable abbrev s0 (w : World) (os : OsState) : Shared := ⟨boot_heap w.params, #[], boot_drawn, boot_toks, os⟩
noncomputable abbrev s1 (w : World) (os : OsState) : Shared := ⟨heap_46 w.params, #[], {}, 187, os⟩
noncomputable abbrev sF (w : World) (os : OsState) : Shared := ⟨heap_393 w.params, #[], {}, 652, os⟩
noncomputable def Seg (n : Nat) (t t' : Params → BT) (a k a' k' : Nat) (l : List Stmt) (p p' : Pos) : Prop := ∀ (w : World) (os : OsState), segRunT treeTable PP w 11 an6 1 n (sT t a k w os) (piecesOf l env_41 cd0 p fr0) = some (.next, sT t' a' k' w os, cd0, p')
theorem Seg.app {n N : Nat} {t t' : Params → BT} {a k a' k' : Nat} {l rest : List Stmt} {p p' : Pos} {w : World} {os : OsState} {r : Shared} (h : Seg n t t' a k a' k' l p p') (hr : topRun treeTable PP w 11 an6 N (sT t' a' k' w os).abs (restOf rest env_41 cd0 p' fr0) = some r) :
    topRun treeTable PP w 11 an6 (n + N) (sT t a k w os).abs (restOf (l ++ rest) env_41 cd0 p fr0) = some r := piece_app (segRun_of (h w os)) hr
theorem l46 (w : World) (os : OsState) : topGo treeTable PP w 11 an6 12 (s0 w os) (topStub PP) = some (s1 w os, ⟨denote treeTable cd0, cd0, pos0, fr0⟩) := by
  rw [PySem.W.Fast.te15667345088766844465, PySem.W.Fast.te14364793385576792824, PySem.W.Fast.te11892475500146522536]; kernel_rfl
theorem l48 (w : World) (os : OsState) : segRun treeTable PP w 11 an6 1 1 (s1 w os) (blockOf bd env_41 cd0 pos0 fr0) = some (.next, (sT tree_47 15 187 w os).abs, cd0, pos0) := by
  rw [PySem.W.Fast.te14374325043358763698, PySem.W.Fast.te14364793385576792824]; kernel_rfl
theorem l78 : Seg 267 tree_47 tree_78 15 187 42 225 sts_49 pos0 ⟨5, 0, 8, 30⟩ := by
  intro w os; rw [PySem.W.Fast.te10110043849684766642, PySem.W.Fast.te14364793385576792824]; kernel_rfl
theorem l121 : Seg 374 tree_78 tree_121 42 225 82 284 sts_79 ⟨5, 0, 8, 30⟩ ⟨22, 0, 27, 67⟩ := by
  intro w os; rw [PySem.W.Fast.te10110043849684766642, PySem.W.Fast.te14364793385576792824]; kernel_rfl
theorem l159 : Seg 296 tree_121 tree_159 82 284 118 337 sts_122 ⟨22, 0, 27, 67⟩ ⟨28, 0, 41, 76⟩ := by
  intro w os; rw [PySem.W.Fast.te10110043849684766642, PySem.W.Fast.te14364793385576792824]; kernel_rfl
theorem l217 : Seg 383 tree_159 tree_217 118 337 174 408 sts_160 ⟨28, 0, 41, 76⟩ ⟨69, 0, 70, 49⟩ := by
  intro w os; rw [PySem.W.Fast.te10110043849684766642, PySem.W.Fast.te14364793385576792824]; kernel_rfl
theorem l294 : Seg 494 tree_217 tree_294 174 408 249 518 sts_218 ⟨69, 0, 70, 49⟩ ⟨71, 0, 157, 20⟩ := by
  intro w os; rw [PySem.W.Fast.te10110043849684766642, PySem.W.Fast.te14364793385576792824]; kernel_rfl
theorem l376 : Seg 375 tree_294 tree_376 249 518 329 625 sts_295 ⟨71, 0, 157, 20⟩ ⟨223, 0, 229, 122⟩ := by
  intro w os; rw [PySem.W.Fast.te10110043849684766642, PySem.W.Fast.te14364793385576792824]; kernel_rfl
theorem l392 : Seg 72 tree_376 tree_392 329 625 343 652 sts_377 ⟨223, 0, 229, 122⟩ ⟨241, 0, 257, 75⟩ := by
  intro w os; rw [PySem.W.Fast.te10110043849684766642, PySem.W.Fast.te14364793385576792824]; kernel_rfl
theorem l394 (w : World) (os : OsState) : topRun treeTable PP w 11 an6 2 (sT tree_392 343 652 w os).abs (restOf [] env_41 cd0 ⟨241, 0, 257, 75⟩ fr0) = some (sF w os) := by
  rw [PySem.W.Fast.te14082659384304107361, PySem.W.Fast.te14364793385576792824]; kernel_rfl
theorem cells : bd = sts_49 ++ (sts_79 ++ (sts_122 ++ (sts_160 ++ (sts_218 ++ (sts_295 ++ (sts_377 ++ [])))))) := by kernel_rfl
theorem run2 (w : World) (os : OsState) : topRun treeTable PP w 11 an6 (267 + (374 + (296 + (383 + (494 + (375 + (72 + 2))))))) (sT tree_47 15 187 w os).abs (restOf bd env_41 cd0 pos0 fr0) = some (sF w os) := by
  refine (congrArg (fun b => topRun treeTable PP w 11 an6 (267 + (374 + (296 + (383 + (494 + (375 + (72 + 2))))))) (sT tree_47 15 187 w os).abs (restOf b env_41 cd0 pos0 fr0) = some (sF w os)) cells).mpr ?_
  exact (l78.app (l121.app (l159.app (l217.app (l294.app (l376.app (l392.app (l394 w os))))))))
theorem run (w : World) (os : OsState) : topRun treeTable PP w 11 an6 (12 + (1 + (267 + (374 + (296 + (383 + (494 + (375 + (72 + 2))))))))) (s0 w os) (topStub PP) = some (sF w os) := go_top (l46 w os) (piece_block (l48 w os) (run2 w os))

/-! the looks -/
abbrev AL : List PySem.Str := [S "ALL"]
abbrev LV : List (PySem.Str × WData) := [(S "ALL", WData.int 4294967295)]
abbrev row0 : OpenRow := PySem.Challenge.rw_nu0125_01.row
noncomputable abbrev XT (s : Shared) : Bool := xlAt view_39 LV s && recOk row0.toRowW.records s
abbrev AS : List Addr := nat_lit 2 :: nat_lit 3 :: nat_lit 15 :: nat_lit 17 :: nat_lit 18 :: nat_lit 20 :: nat_lit 21 :: nat_lit 22 :: nat_lit 29 :: nat_lit 31 :: nat_lit 32 :: nat_lit 34 :: nat_lit 35 :: nat_lit 36 :: nat_lit 37 :: nat_lit 38 :: nat_lit 39 :: nat_lit 42 :: nat_lit 49 :: nat_lit 50 :: nat_lit 51 :: nat_lit 54 :: nat_lit 56 :: nat_lit 57 :: nat_lit 59 :: nat_lit 60 :: nat_lit 61 :: nat_lit 63 :: nat_lit 64 :: nat_lit 66 :: nat_lit 67 :: nat_lit 68 :: nat_lit 70 :: nat_lit 71 :: nat_lit 73 :: nat_lit 74 :: nat_lit 75 :: nat_lit 77 :: nat_lit 78 :: nat_lit 80 :: nat_lit 81 :: nat_lit 89 :: nat_lit 90 :: nat_lit 92 :: nat_lit 93 :: nat_lit 95 :: nat_lit 96 :: nat_lit 97 :: nat_lit 99 :: nat_lit 100 :: nat_lit 102 :: nat_lit 103 :: nat_lit 104 :: nat_lit 106 :: nat_lit 107 :: nat_lit 109 :: nat_lit 110 :: nat_lit 111 :: nat_lit 112 :: nat_lit 113 :: nat_lit 114 :: nat_lit 115 :: nat_lit 125 :: nat_lit 127 :: nat_lit 128 :: nat_lit 130 :: nat_lit 131 :: nat_lit 132 :: nat_lit 134 :: nat_lit 135 :: nat_lit 137 :: nat_lit 138 :: nat_lit 139 :: nat_lit 141 :: nat_lit 142 :: nat_lit 144 :: nat_lit 145 :: nat_lit 146 :: nat_lit 148 :: nat_lit 149 :: nat_lit 151 :: nat_lit 152 :: nat_lit 153 :: nat_lit 155 :: nat_lit 156 :: nat_lit 158 :: nat_lit 159 :: nat_lit 160 :: nat_lit 161 :: nat_lit 162 :: nat_lit 163 :: nat_lit 164 :: nat_lit 167 :: nat_lit 169 :: nat_lit 170 :: nat_lit 172 :: nat_lit 173 :: nat_lit 181 :: nat_lit 183 :: nat_lit 184 :: nat_lit 186 :: nat_lit 187 :: nat_lit 188 :: nat_lit 190 :: nat_lit 191 :: nat_lit 193 :: nat_lit 194 :: nat_lit 195 :: nat_lit 197 :: nat_lit 198 :: nat_lit 200 :: nat_lit 201 :: nat_lit 202 :: nat_lit 204 :: nat_lit 205 :: nat_lit 207 :: nat_lit 208 :: nat_lit 209 :: nat_lit 211 :: nat_lit 212 :: nat_lit 214 :: nat_lit 215 :: nat_lit 216 :: nat_lit 219 :: nat_lit 220 :: nat_lit 221 :: nat_lit 223 :: nat_lit 224 :: nat_lit 226 :: nat_lit 227 :: nat_lit 228 :: nat_lit 230 :: nat_lit 231 :: nat_lit 233 :: nat_lit 234 :: nat_lit 235 :: nat_lit 237 :: nat_lit 238 :: nat_lit 240 :: nat_lit 241 :: nat_lit 242 :: nat_lit 243 :: nat_lit 244 :: nat_lit 245 :: nat_lit 246 :: nat_lit 249 :: nat_lit 251 :: nat_lit 252 :: nat_lit 254 :: nat_lit 255 :: nat_lit 256 :: nat_lit 258 :: nat_lit 259 :: nat_lit 261 :: nat_lit 262 :: nat_lit 263 :: nat_lit 265 :: nat_lit 266 :: nat_lit 268 :: nat_lit 269 :: nat_lit 270 :: nat_lit 272 :: nat_lit 273 :: nat_lit 275 :: nat_lit 276 :: nat_lit 277 :: nat_lit 279 :: nat_lit 280 :: nat_lit 282 :: nat_lit 283 :: nat_lit 284 :: nat_lit 286 :: nat_lit 287 :: nat_lit 289 :: nat_lit 290 :: nat_lit 291 :: nat_lit 293 :: nat_lit 294 :: nat_lit 296 :: nat_lit 297 :: nat_lit 298 :: nat_lit 300 :: nat_lit 301 :: nat_lit 303 :: nat_lit 304 :: nat_lit 305 :: nat_lit 307 :: nat_lit 308 :: nat_lit 310 :: nat_lit 311 :: nat_lit 312 :: nat_lit 314 :: nat_lit 315 :: nat_lit 317 :: nat_lit 318 :: nat_lit 319 :: nat_lit 322 :: nat_lit 323 :: nat_lit 324 :: nat_lit 327 :: nat_lit 328 :: nat_lit 329 :: nat_lit 331 :: nat_lit 332 :: nat_lit 334 :: nat_lit 335 :: nat_lit 336 :: nat_lit 338 :: nat_lit 339 :: nat_lit 341 :: nat_lit 342 :: []
theorem AS_ok (P : Params) : AS = (heap_39 P).map (·.1) := by kernel_rfl
noncomputable abbrev HK : Hook := kmHook heap_39 AS AS_ok [325]
theorem k397 (w : World) : ((boot_heap w.params).isNs mainGlobals && (#[] : Array GenState).size == 0, (boot_heap w.params).objs.size, (boot_heap w.params).nsMap mainGlobals (S "__annotations__")) = (true, 11, an6) := by
  rw [PySem.W.Fast.te8920871248978507458]; kernel_rfl
theorem k399 (w : World) (os : OsState) : (staticsOk (importedModules PP.main.body) (boot_heap w.params) (heap_393 w.params) && namesBound PP (heap_393 w.params) && gensDone (sF w os) && laidKept (boot_heap w.params) (heap_393 w.params)) = true := by
  rw [PySem.W.Fast.te5923862056798008813]; kernel_rfl
theorem k401 (w : World) (os : OsState) : seen ((recsOf view_39).map (·.name)) (ownsOf view_39) [] { heap := (sF w os).heap, drawn := (sF w os).drawn, toks := (sF w os).toks, os := (sF w os).os } = expectedOf view_39 := by
  rw [PySem.W.Fast.te5160383126252970620, PySem.W.Fast.te3399658132070893891, PySem.W.Fast.te5991557255702980513]; kernel_rfl
theorem k403 (w : World) (os : OsState) : (sF w os).heap.bltView = bltViewBooted := by kernel_rfl
theorem k405 (w : World) (os : OsState) : ((sF w os).heap.keysOk (looseW view_39 AL) ((recsOf view_39).map (·.name)) ((litsOf view_39).map (·.1)) ((clssOf view_39 (looseW view_39 AL)).map (·.name)) && (sF w os).heap.accountedOkI (importedModules PP.main.body) && (sF w os).heap.isNs mainGlobals && (sF w os).heap.isNs builtinsNs && tablesOk view_39 (sF w os).heap && XT (sF w os) && if true = true then (sF w os).gens.size == 0 else !leftWithCleanup (sF w os).gens) = true := by
  rw [PySem.W.Fast.te10880121769531294198, PySem.W.Fast.te821141287760084731, PySem.W.Fast.te3399658132070893891, PySem.W.Fast.te7409074990110511671, PySem.W.Fast.te13664370479719496447, PySem.W.Fast.te14722251495701143533, PySem.W.Fast.te5923862056798008813, PySem.W.Fast.te10994771534591457954]; kernel_rfl
theorem k407 (w : World) (os : OsState) : tabsOk view_39 (sF w os) = true := by
  rw [PySem.W.Fast.te479339242167458305]; kernel_rfl
theorem k409 (w : World) (os : OsState) : pinSeenD view_39 (drecsOf view_39) (sF w os) = pinGoodD (drecsOf view_39) := by
  rw [PySem.W.Fast.te16090120013241838585, PySem.W.Fast.te3247288618530077131]; kernel_rfl
theorem k411 (w : World) (os : OsState) : plainSeenE view_39 (looseW view_39 AL) (sF w os) = plainGoodE view_39 (looseW view_39 AL) := by
  rw [PySem.W.Fast.te2386780881361962483, PySem.W.Fast.te821141287760084731]; kernel_rfl
theorem k413 (w : World) (os : OsState) : plainSeenD view_39 AL (sF w os) = plainGoodD view_39 AL := by
  rw [PySem.W.Fast.te11698064438423848299]; kernel_rfl
theorem k415 (w : World) (os : OsState) : wideSeen view_39 (sF w os) = wideGood view_39 := by
  rw [PySem.W.Fast.te7317090234206586261]; kernel_rfl
theorem k417 (w : World) (os : OsState) : clsSeenW view_39 AL (sF w os) = clsGoodW view_39 AL := by
  rw [PySem.W.Fast.te7369524293546568484]; kernel_rfl
theorem k418 (w : World) (os : OsState) : HK.obs (sF w os) = HK.val w := by kernel_rfl
theorem k42 : opening PP = plainProg PP.main.scope.names := rfl
theorem k43 (s : Shared) : fenceModules? PP s = some s := rfl
theorem left : LeftO PP view_39 AL XT HK.obs HK.val 4634 := LeftO.of_pieces (boot_open k42 (by decide) k43) k397 run (by decide) fun w => funext fun os =>
  looks_pair (k399 w os) (looks_pair (looks_pair (k401 w os) (looks_pair (k403 w os) (looks_pair (k405 w os) (looks_pair (k407 w os) (looks_pair (k409 w os) (looks_pair (k411 w os) (looks_pair (k413 w os) (looks_pair (k415 w os) (k417 w os))))))))) (k418 w os))
set_option maxHeartbeats 8000000 in
theorem wellSaid : PySem.Challenge.rw_nu0125_01.wellSaid = true := by
  unfold OpenLaw.wellSaid OpenRow.wellSaid OpenRow.partSaid looksOpen
  repeat' with_reducible refine look_both ?_ ?_
  all_goals (as_aux_lemma => ((try rw [PySem.W.Fast.te10501279942588096481]); (try rw [PySem.W.Fast.te10792542408131684335]); (try rw [PySem.W.Fast.te11788848310118352699]); (try rw [PySem.W.Fast.te12749700546528644094]); (try rw [PySem.W.Fast.te12862048085361865435]); (try rw [PySem.W.Fast.te12879404354523853263]); (try rw [PySem.W.Fast.te13343964577679436407]); (try rw [PySem.W.Fast.te13582783067957832011]); (try rw [PySem.W.Fast.te14412699480532031325]); (try rw [PySem.W.Fast.te16286561074155671207]); (try rw [PySem.W.Fast.te17095254045102204799]); (try rw [PySem.W.Fast.te17119622794617984870]); (try rw [PySem.W.Fast.te17691160309236699985]); (try rw [PySem.W.Fast.te17868728402115742887]); (try rw [PySem.W.Fast.te18344453789297297638]); (try rw [PySem.W.Fast.te2357444279172408678]); (try rw [PySem.W.Fast.te2368527892694137696]); (try rw [PySem.W.Fast.te3471404346716756564]); (try rw [PySem.W.Fast.te4274047373036748609]); (try rw [PySem.W.Fast.te4579403493507170074]); (try rw [PySem.W.Fast.te482687673346738481]); (try rw [PySem.W.Fast.te4857012375875476094]); (try rw [PySem.W.Fast.te5318747976498570220]); (try rw [PySem.W.Fast.te5923862056798008813]); (try rw [PySem.W.Fast.te6984425678791042302]); (try rw [PySem.W.Fast.te7723801398212525404]); (try rw [PySem.W.Fast.te797321630700447069]); (try rw [PySem.W.Fast.te8179353310426384613]); (try rw [PySem.W.Fast.te8326940854005059898]); (try rw [PySem.W.Fast.te8377067652309620493]); (try rw [PySem.W.Fast.te9558739934217749035]); (try rw [PySem.W.Fast.te9572597257264208301]); (try rw [PySem.W.Fast.te9706382859710513879]); (try rw [PySem.W.Fast.te9807087744658564304]); kernel_rfl))
theorem p40 : (chainsOk view_39 && opensWell PP && (frees row0.toRowW && row0.within.isEmpty)) = true := by decide +kernel
theorem p41 : PP.tablesWhole = true := by decide +kernel
theorem p43 : row0.promised := ⟨[WData.list []], by decide +kernel, by decide +kernel⟩
abbrev Walk (d : DefRec) : Prop := WalkO view_39 AL (XL view_39 LV) HK.says row0.toRowW d [] fun f vs => call f vs
theorem head {d : DefRec} (hd : defOf view_39 row0.name = some (d, [])) (ht : row0.prog.theDef row0.name = some (d.params, d.body, d.scope)) (hk : kwWritten? d.params.kwonlyargs d.params.kw_defaults = some []) (h : Walk d) : PySem.Challenge.rw_nu0125_01.Holds :=
  holds_law wellSaid fun said => holds_open (r := row0) (q := view_39) (loose := AL) (Xt := XT) (XP := XL view_39 LV) (Yf := HK.obs) (Ya := HK.val) (YP := HK.says) (N := 4634) left HK.of HK.keeps (fun s e => xl_of s (Bool.and_eq_true_iff.mp e).1) XL.keeps hd ht hk
    (fun s e => recFacts_of (Bool.and_eq_true_iff.mp e).2) rfl said p40 ⟨rfl, rfl, rfl, rfl, rfl, p41⟩ p43 h
end hd
end Mine
local macro_rules | `(tactic| omega) => `(tactic| lia)
section
open PySem PySem.W PyProof.Rows PySem.Spec PySem.Calls
namespace Mine

abbrev pr : Program := PySem.Challenge.pw_nu0125_01
abbrev MM (w : World) : Model := model pr w
abbrev Led := List (Addr × Obj)

/-! values without their tokens -/
noncomputable def er : Value → Value
  | .int i _ => .int i 0
  | .float b _ => .float b 0
  | .str s _ => .str s 0
  | .bytes b _ => .bytes b 0
  | v => v
abbrev vi (i : Int) : Value := .int i 0
theorem er_int {u : Value} {i : Int} (h : er u = vi i) : ∃ t, u = .int i t := by
  cases u <;> simp [er] at h ⊢
  exact h
theorem er_ref {u : Value} {a : Addr} (h : er u = .ref a) : u = .ref a := by
  cases u <;> simp [er] at h ⊢
  exact h
theorem er_none {u : Value} (h : er u = .none) : u = .none := by
  cases u <;> simp [er] at h ⊢
theorem er_bool {u : Value} {b : Bool} (h : er u = .bool b) : u = .bool b := by
  cases u <;> simp [er] at h ⊢
  exact h
theorem er_refs {us : List Value} {as : List Addr} (h : us.map er = as.map Value.ref) : us = as.map Value.ref := by
  induction us generalizing as with
  | nil => cases as <;> simp_all
  | cons u us ih =>
    cases as with
    | nil => simp at h
    | cons a as =>
      simp only [List.map_cons, List.cons.injEq] at h ⊢
      exact ⟨er_ref h.1, ih h.2⟩

/-! the heap, abstractly -/
abbrev tupOf (us : Array Value) (n : Nat) : Obj := { cls := .type "tuple", data := .seq us n }
inductive AO where
  | list (vs : List Value)
  | tup (vs : List Value)
  | cell (v : Option Value)
  | raw (o : Obj)
  | route (n p g f m : Int)
  | branch (z o l : Value)
  | routes (r : Value) (m : Int)
  | part (C : Addr) (ns : List PySem.Str) (vs : List Value)
abbrev AH := Addr → Option AO
noncomputable def upd (σ : AH) (a : Addr) (o : AO) : AH := fun b => if b = a then some o else σ b
theorem upd_self {σ : AH} {a : Addr} {o : AO} : upd σ a o a = some o := if_pos rfl
theorem upd_other {σ : AH} {a b : Addr} {o : AO} (h : b ≠ a) : upd σ a o b = σ b := if_neg h

abbrev cRoute : Addr := 113
abbrev cBranch : Addr := 162
abbrev cRoutes : Addr := 244
abbrev nRoute : List PySem.Str := [PySem.Str.ofString "net", PySem.Str.ofString "prefix", PySem.Str.ofString "gateway", PySem.Str.ofString "face", PySem.Str.ofString "metric"]
abbrev nBranch : List PySem.Str := [PySem.Str.ofString "zero", PySem.Str.ofString "one", PySem.Str.ofString "routes"]
abbrev nRoutes : List PySem.Str := [PySem.Str.ofString "root", PySem.Str.ofString "many"]
structure Shp where
  C : Addr
  ns : List PySem.Str
  vs : List Value
noncomputable def shape : AO → Option Shp
  | .route n p g f m => some ⟨cRoute, nRoute, [vi n, vi p, vi g, vi f, vi m]⟩
  | .branch z o l => some ⟨cBranch, nBranch, [z, o, l]⟩
  | .routes r m => some ⟨cRoutes, nRoutes, [r, vi m]⟩
  | .part C ns vs => some ⟨C, ns, vs⟩
  | _ => none
noncomputable def Cel : AO → Obj → Prop
  | .list vs, o => ∃ us n, o = listOf us n ∧ us.toList.map er = vs
  | .tup vs, o => ∃ us n, o = tupOf us n ∧ us.toList.map er = vs
  | .cell v, o => ∃ u, o.data = .cell u ∧ u.map er = v
  | .raw o', o => o = o'
  | _, _ => False
noncomputable def Ents : List PySem.Str → List Value → List DictEntry → Prop
  | [], [], [] => True
  | x :: xs, v :: vs, e :: es => (∃ t, e.key = .str x t) ∧ er e.val = v ∧ Ents xs vs es
  | _, _, _ => False
noncomputable def HoldsAt (news : Led) (dx : Addr → Addr) (a : Addr) (ao : AO) : Prop := match shape ao with
  | none => ∃ o, (a, o) ∈ news ∧ Cel ao o
  | some s => ∃ es n, (a, instObj s.C (dx a)) ∈ news ∧ (dx a, dictOf es n) ∈ news ∧ Ents s.ns s.vs es
theorem HoldsAt.mem {news : Led} {dx : Addr → Addr} {a : Addr} {ao : AO} (h : HoldsAt news dx a ao) : ∃ o, (a, o) ∈ news := by
  unfold HoldsAt at h
  split at h
  · exact ⟨h.choose, h.choose_spec.1⟩
  · obtain ⟨es, n, h1, _⟩ := h; exact ⟨_, h1⟩
theorem HoldsAt.memD {news : Led} {dx : Addr → Addr} {a : Addr} {ao : AO} (h : HoldsAt news dx a ao) (hs : (shape ao).isSome = true) : ∃ o, (dx a, o) ∈ news := by
  unfold HoldsAt at h
  split at h
  · rename_i e; rw [e] at hs; cases hs
  · obtain ⟨es, n, _, h1, _⟩ := h; exact ⟨_, h1⟩

noncomputable def keysOf (news : Led) : List Addr := news.map (·.1)
structure RepD (Φ news : Led) (σ : AH) (dx : Addr → Addr) : Prop where
  nodup : (keysOf news).Nodup
  holds : ∀ a o, σ a = some o → HoldsAt news dx a o
  free : ∀ a o, σ a = some o → (shape o).isSome = true → σ (dx a) = none
  inj : ∀ a o b o', σ a = some o → σ b = some o' → (shape o).isSome = true → (shape o').isSome = true → dx a = dx b → a = b
  fr : ∀ p ∈ Φ, p ∈ news
  off : ∀ p ∈ Φ, σ p.1 = none
  offd : ∀ p ∈ Φ, ∀ a o, σ a = some o → (shape o).isSome = true → dx a ≠ p.1
noncomputable def Rep (Φ news : Led) (σ : AH) : Prop := ∃ dx, RepD Φ news σ dx

theorem upd_mem {d : Addr} {o o' : Obj} : ∀ {news : Led}, (keysOf news).Nodup → (d, o) ∈ news → ∃ news', Upd d o o' news news' ∧ keysOf news' = keysOf news ∧ (d, o') ∈ news' ∧ ∀ p ∈ news, p.1 ≠ d → p ∈ news'
  | [], _, h => nomatch h
  | p :: r, nd, h => by
    simp only [keysOf, List.map_cons, List.nodup_cons] at nd
    by_cases hp : p.1 = d
    · have hn : ∀ q ∈ r, q.1 ≠ d := fun q hq e => nd.1 (by rw [hp, ← e]; exact List.mem_map_of_mem (f := (·.1)) hq)
      have : p = (d, o) := by
        rcases List.mem_cons.mp h with e | h
        · exact e.symm
        · exact absurd rfl (hn _ h)
      subst this
      refine ⟨(d, o') :: r, .head hn, rfl, .head _, fun q hq hd => ?_⟩
      rcases List.mem_cons.mp hq with rfl | hq
      · exact absurd rfl hd
      · exact .tail _ hq
    · have h' : (d, o) ∈ r := by
        rcases List.mem_cons.mp h with rfl | h
        · exact absurd rfl hp
        · exact h
      obtain ⟨news', U, k, m, rest⟩ := upd_mem nd.2 h'
      refine ⟨p :: news', .tail hp U, by simp only [keysOf, List.map_cons] at k ⊢; rw [k], .tail _ m, fun q hq hd => ?_⟩
      rcases List.mem_cons.mp hq with rfl | hq
      · exact .head _
      · exact .tail _ (rest q hq hd)

theorem Rep.none_of_fresh {Φ news : Led} {σ : AH} (R : Rep Φ news σ) {a : Addr} (h : ∀ p ∈ news, p.1 ≠ a) : σ a = none := by
  obtain ⟨dx, R⟩ := R
  cases e : σ a with
  | none => rfl
  | some o => obtain ⟨o', hm⟩ := (R.holds _ _ e).mem; exact absurd rfl (h _ hm)

theorem HoldsAt.sub {news news' : Led} {dx : Addr → Addr} {a : Addr} {ao : AO} (h : HoldsAt news dx a ao) (k : ∀ p ∈ news, p ∈ news') : HoldsAt news' dx a ao := by
  unfold HoldsAt at h ⊢
  split at h
  · obtain ⟨o, h1, h2⟩ := h; exact ⟨o, k _ h1, h2⟩
  · obtain ⟨es, n, h1, h2, h3⟩ := h; exact ⟨es, n, k _ h1, k _ h2, h3⟩

/-- a new object of one cell -/
theorem Rep.push {Φ news : Led} {σ : AH} (R : Rep Φ news σ) {a : Addr} {o : Obj} {ao : AO} (hf : ∀ p ∈ news, p.1 ≠ a) (hs : shape ao = none) (h : Cel ao o) : Rep Φ ((a, o) :: news) (upd σ a ao) := by
  have hn := R.none_of_fresh hf
  obtain ⟨dx, R⟩ := R
  have key : a ∉ keysOf news := fun hm => by obtain ⟨p, hp, e⟩ := List.mem_map.mp hm; exact hf p hp e
  refine ⟨dx, ⟨List.nodup_cons.mpr ⟨key, R.nodup⟩, fun b o' e => ?_, fun b o' e q => ?_, fun b o' c o2 e e2 q q2 z => ?_, fun p hp => ?_, fun p hp => ?_, fun p hp b o' e q => ?_⟩⟩
  · by_cases hb : b = a
    · subst hb; rw [upd_self] at e; cases e
      unfold HoldsAt; rw [hs]; exact ⟨o, .head _, h⟩
    · rw [upd_other hb] at e; exact (R.holds _ _ e).sub fun p hp => .tail _ hp
  · have hb : b ≠ a := by rintro rfl; rw [upd_self] at e; cases e; rw [hs] at q; cases q
    rw [upd_other hb] at e
    have : dx b ≠ a := fun z => by obtain ⟨o3, hm⟩ := (R.holds _ _ e).memD q; exact hf _ hm z
    rw [upd_other this]; exact R.free _ _ e q
  · have hb : b ≠ a := by rintro rfl; rw [upd_self] at e; cases e; rw [hs] at q; cases q
    have hc : c ≠ a := by rintro rfl; rw [upd_self] at e2; cases e2; rw [hs] at q2; cases q2
    rw [upd_other hb] at e; rw [upd_other hc] at e2
    exact R.inj _ _ _ _ e e2 q q2 z
  · exact .tail _ (R.fr _ hp)
  · rw [upd_other (hf _ (R.fr _ hp))]; exact R.off _ hp
  · have hb : b ≠ a := by rintro rfl; rw [upd_self] at e; cases e; rw [hs] at q; cases q
    rw [upd_other hb] at e
    exact R.offd _ hp _ _ e q

/-- a new object with a dict -/
theorem Rep.pushI {Φ news : Led} {σ : AH} (R : Rep Φ news σ) {a d : Addr} {es : List DictEntry} {n : Nat} {ao : AO} {s : Shp} (hfa : ∀ p ∈ news, p.1 ≠ a) (hfd : ∀ p ∈ news, p.1 ≠ d) (had : a ≠ d) (hs : shape ao = some s) (h : Ents s.ns s.vs es) :
    Rep Φ ((a, instObj s.C d) :: (d, dictOf es n) :: news) (upd σ a ao) := by
  have hn := R.none_of_fresh hfa
  have hnd := R.none_of_fresh hfd
  obtain ⟨dx, R⟩ := R
  have keya : a ∉ keysOf news := fun hm => by obtain ⟨p, hp, e⟩ := List.mem_map.mp hm; exact hfa p hp e
  have keyd : d ∉ keysOf news := fun hm => by obtain ⟨p, hp, e⟩ := List.mem_map.mp hm; exact hfd p hp e
  have old : ∀ b o', σ b = some o' → HoldsAt ((a, instObj s.C d) :: (d, dictOf es n) :: news) (fun b => if b = a then d else dx b) b o' := fun b o' e => by
    have hb : b ≠ a := by rintro rfl; rw [hn] at e; cases e
    have z := (R.holds _ _ e).sub (news' := (a, instObj s.C d) :: (d, dictOf es n) :: news) fun p hp => .tail _ (.tail _ hp)
    unfold HoldsAt at z ⊢
    simp only [if_neg hb]
    exact z
  refine ⟨fun b => if b = a then d else dx b, ⟨?_, fun b o' e => ?_, fun b o' e q => ?_, fun b o' c o2 e e2 q q2 z => ?_, fun p hp => .tail _ (.tail _ (R.fr _ hp)), fun p hp => ?_, fun p hp b o' e q => ?_⟩⟩
  · exact List.nodup_cons.mpr ⟨fun hm => by
      rcases List.mem_cons.mp hm with e | hm
      · exact had e
      · exact keya hm, List.nodup_cons.mpr ⟨keyd, R.nodup⟩⟩
  · by_cases hb : b = a
    · subst hb; rw [upd_self] at e; cases e
      unfold HoldsAt; rw [hs]; simp only [if_true]; exact ⟨es, n, .head _, .tail _ (.head _), h⟩
    · rw [upd_other hb] at e; exact old _ _ e
  · by_cases hb : b = a
    · subst hb
      simp only [if_true]
      rw [upd_other had.symm]; exact hnd
    · rw [upd_other hb] at e
      simp only [if_neg hb]
      have : dx b ≠ a := fun z => by obtain ⟨o3, hm⟩ := (R.holds _ _ e).memD q; exact hfa _ hm z
      rw [upd_other this]; exact R.free _ _ e q
  · have nd : ∀ b o, σ b = some o → (shape o).isSome = true → dx b ≠ d := fun b o e q z => by obtain ⟨o3, hm⟩ := (R.holds _ _ e).memD q; exact hfd _ hm z
    by_cases hb : b = a
    · by_cases hc : c = a
      · rw [hb, hc]
      · rw [upd_other hc] at e2
        simp only [hb, if_true, if_neg hc] at z
        exact absurd z.symm (nd _ _ e2 q2)
    · by_cases hc : c = a
      · rw [upd_other hb] at e
        simp only [hc, if_true, if_neg hb] at z
        exact absurd z (nd _ _ e q)
      · rw [upd_other hb] at e; rw [upd_other hc] at e2
        simp only [if_neg hb, if_neg hc] at z
        exact R.inj _ _ _ _ e e2 q q2 z
  · rw [upd_other (hfa _ (R.fr _ hp))]; exact R.off _ hp
  · by_cases hb : b = a
    · subst hb
      simp only [if_true]
      exact fun z => hfd _ (R.fr _ hp) z.symm
    · rw [upd_other hb] at e
      simp only [if_neg hb]
      exact R.offd _ hp _ _ e q

/-- an object of one cell turns -/
theorem Rep.turn {Φ news : Led} {σ : AH} (R : Rep Φ news σ) {a : Addr} {ao ao' : AO} (e : σ a = some ao) (hs : shape ao = none) (hs' : shape ao' = none) : ∃ o, (a, o) ∈ news ∧ Cel ao o ∧ ∀ o', Cel ao' o' → ∃ news', Upd a o o' news news' ∧ Rep Φ news' (upd σ a ao') := by
  obtain ⟨dx, R⟩ := R
  have H := R.holds _ _ e
  unfold HoldsAt at H
  rw [hs] at H
  obtain ⟨o, hm, hsl⟩ := H
  refine ⟨o, hm, hsl, fun o' ho' => ?_⟩
  obtain ⟨news', U, k, m, rest⟩ := upd_mem (o' := o') R.nodup hm
  refine ⟨news', U, dx, ⟨k ▸ R.nodup, fun b o2 e2 => ?_, fun b o2 e2 q => ?_, fun b o2 c o3 e2 e3 q q3 z => ?_, fun p hp => rest _ (R.fr _ hp) fun z => ?_, fun p hp => ?_, fun p hp b o2 e2 q => ?_⟩⟩
  · by_cases hb : b = a
    · subst hb; rw [upd_self] at e2; cases e2
      unfold HoldsAt; rw [hs']; exact ⟨o', m, ho'⟩
    · rw [upd_other hb] at e2
      have z := R.holds _ _ e2
      have fr := R.free _ _ e2
      unfold HoldsAt at z ⊢
      split at z
      · rename_i es; try rw [es]
        obtain ⟨o3, h1, h2⟩ := z; exact ⟨o3, rest _ h1 hb, h2⟩
      · rename_i s es; obtain ⟨es', n, h1, h2, h3⟩ := z
        refine ⟨es', n, rest _ h1 hb, rest _ h2 fun q => ?_, h3⟩
        have := fr (by rw [es]; rfl)
        rw [show dx b = a from q, e] at this; cases this
  · have hb : b ≠ a := by rintro rfl; rw [upd_self] at e2; cases e2; rw [hs'] at q; cases q
    rw [upd_other hb] at e2
    have := R.free _ _ e2 q
    have hd : dx b ≠ a := fun z => by rw [z, e] at this; cases this
    rw [upd_other hd]; exact this
  · have hb : b ≠ a := by rintro rfl; rw [upd_self] at e2; cases e2; rw [hs'] at q; cases q
    have hc : c ≠ a := by rintro rfl; rw [upd_self] at e3; cases e3; rw [hs'] at q3; cases q3
    rw [upd_other hb] at e2; rw [upd_other hc] at e3
    exact R.inj _ _ _ _ e2 e3 q q3 z
  · have := R.off _ hp; rw [z, e] at this; cases this
  · have : p.1 ≠ a := fun z => by have := R.off _ hp; rw [z, e] at this; cases this
    rw [upd_other this]; exact R.off _ hp
  · have hb : b ≠ a := by rintro rfl; rw [upd_self] at e2; cases e2; rw [hs'] at q; cases q
    rw [upd_other hb] at e2
    exact R.offd _ hp _ _ e2 q

/-- the dict of an object turns -/
theorem Rep.turnI {Φ news : Led} {σ : AH} (R : Rep Φ news σ) {a : Addr} {ao ao' : AO} {s s' : Shp} (e : σ a = some ao) (hs : shape ao = some s) (hs' : shape ao' = some s') (hC : s'.C = s.C) :
    ∃ d es n, (a, instObj s.C d) ∈ news ∧ (d, dictOf es n) ∈ news ∧ Ents s.ns s.vs es ∧ ∀ es' n', Ents s'.ns s'.vs es' → ∃ news', Upd d (dictOf es n) (dictOf es' n') news news' ∧ Rep Φ news' (upd σ a ao') := by
  obtain ⟨dx, R⟩ := R
  have H := R.holds _ _ e
  unfold HoldsAt at H
  rw [hs] at H
  obtain ⟨es, n, hm, hmd, hen⟩ := H
  refine ⟨dx a, es, n, hm, hmd, hen, fun es' n' he' => ?_⟩
  obtain ⟨news', U, k, m, rest⟩ := upd_mem (o' := dictOf es' n') R.nodup hmd
  have hfr := R.free _ _ e (by rw [hs]; rfl)
  have had : a ≠ dx a := fun z => by rw [← z, e] at hfr; cases hfr
  refine ⟨news', U, dx, ⟨k ▸ R.nodup, fun b o2 e2 => ?_, fun b o2 e2 q => ?_, fun b o2 c o3 e2 e3 q q3 z => ?_, fun p hp => rest _ (R.fr _ hp) fun z => R.offd _ hp _ _ e (by rw [hs]; rfl) z.symm, fun p hp => ?_, fun p hp b o2 e2 q => ?_⟩⟩
  · by_cases hb : b = a
    · subst hb; rw [upd_self] at e2; cases e2
      unfold HoldsAt; rw [hs']; exact ⟨es', n', hC ▸ rest _ hm had, m, he'⟩
    · rw [upd_other hb] at e2
      have z := R.holds _ _ e2
      have hbd : b ≠ dx a := fun q => by rw [← q, e2] at hfr; cases hfr
      unfold HoldsAt at z ⊢
      split at z
      · obtain ⟨o3, h1, h2⟩ := z; exact ⟨o3, rest _ h1 hbd, h2⟩
      · rename_i s es; obtain ⟨es', n, h1, h2, h3⟩ := z
        refine ⟨es', n, rest _ h1 hbd, rest _ h2 fun q => ?_, h3⟩
        exact hb (R.inj _ _ _ _ e2 e (by rw [es]; rfl) (by rw [hs]; rfl) q)
  · by_cases hb : b = a
    · subst hb; rw [upd_other had.symm]; exact hfr
    · rw [upd_other hb] at e2
      have := R.free _ _ e2 q
      have hd : dx b ≠ a := fun z => by rw [z, e] at this; cases this
      rw [upd_other hd]; exact this
  · have conv : ∀ b o, upd σ a ao' b = some o → (shape o).isSome = true → ∃ o', σ b = some o' ∧ (shape o').isSome = true := fun b o hq hz => by
      by_cases hb : b = a
      · subst hb; exact ⟨ao, e, by rw [hs]; rfl⟩
      · rw [upd_other hb] at hq; exact ⟨o, hq, hz⟩
    obtain ⟨x, x1, x2⟩ := conv _ _ e2 q
    obtain ⟨y, y1, y2⟩ := conv _ _ e3 q3
    exact R.inj _ _ _ _ x1 y1 x2 y2 z
  · have : p.1 ≠ a := fun z => by have := R.off _ hp; rw [z, e] at this; cases this
    rw [upd_other this]; exact R.off _ hp
  · by_cases hb : b = a
    · subst hb; exact R.offd _ hp _ _ e (by rw [hs]; rfl)
    · rw [upd_other hb] at e2; exact R.offd _ hp _ _ e2 q

/-- what stands beside -/
theorem Rep.hold {Φ news : Led} {σ : AH} (R : Rep Φ news σ) {a : Addr} {o : Obj} (hf : ∀ p ∈ news, p.1 ≠ a) : Rep ((a, o) :: Φ) ((a, o) :: news) σ := by
  have hn := R.none_of_fresh hf
  obtain ⟨dx, R⟩ := R
  have key : a ∉ keysOf news := fun hm => by obtain ⟨p, hp, e⟩ := List.mem_map.mp hm; exact hf p hp e
  refine ⟨dx, ⟨List.nodup_cons.mpr ⟨key, R.nodup⟩, fun b o' e => (R.holds _ _ e).sub fun p hp => .tail _ hp, R.free, R.inj, fun p hp => ?_, fun p hp => ?_, fun p hp b o' e q => ?_⟩⟩
  · rcases List.mem_cons.mp hp with rfl | hp
    · exact .head _
    · exact .tail _ (R.fr _ hp)
  · rcases List.mem_cons.mp hp with rfl | hp
    · exact hn
    · exact R.off _ hp
  · rcases List.mem_cons.mp hp with rfl | hp
    · intro z; obtain ⟨o3, hm⟩ := (R.holds _ _ e).memD q; exact hf _ hm z
    · exact R.offd _ hp _ _ e q
theorem Rep.turnF {Φ news : Led} {σ : AH} {a : Addr} {o : Obj} (R : Rep ((a, o) :: Φ) news σ) (hne : ∀ p ∈ Φ, p.1 ≠ a) (o' : Obj) : ∃ news', Upd a o o' news news' ∧ Rep ((a, o') :: Φ) news' σ := by
  obtain ⟨dx, R⟩ := R
  obtain ⟨news', U, k, m, rest⟩ := upd_mem (o' := o') R.nodup (R.fr _ (.head _))
  have h0 := R.off _ (.head _)
  have h1 := R.offd _ (.head _)
  refine ⟨news', U, dx, ⟨k ▸ R.nodup, fun b o2 e => ?_, R.free, R.inj, fun p hp => ?_, fun p hp => ?_, fun p hp => ?_⟩⟩
  · have z := R.holds _ _ e
    have hb : b ≠ a := fun q => by rw [q] at e; rw [show σ a = none from h0] at e; cases e
    have fr := h1 _ _ e
    unfold HoldsAt at z ⊢
    split at z
    · rename_i es; obtain ⟨o3, x1, x2⟩ := z; exact ⟨o3, rest _ x1 hb, x2⟩
    · rename_i s es; obtain ⟨es', n, x1, x2, x3⟩ := z
      exact ⟨es', n, rest _ x1 hb, rest _ x2 (fr (by rw [es]; rfl)), x3⟩
  · rcases List.mem_cons.mp hp with rfl | hp
    · exact m
    · exact rest _ (R.fr _ (.tail _ hp)) (hne _ hp)
  · rcases List.mem_cons.mp hp with rfl | hp
    · exact h0
    · exact R.off _ (.tail _ hp)
  · rcases List.mem_cons.mp hp with rfl | hp
    · exact h1
    · exact R.offd _ (.tail _ hp)
theorem Rep.at1 {Φ news : Led} {σ : AH} (R : Rep Φ news σ) {a : Addr} {ao : AO} (e : σ a = some ao) (hs : shape ao = none) : ∃ o, (a, o) ∈ news ∧ Cel ao o := by
  obtain ⟨dx, R⟩ := R
  have H := R.holds _ _ e
  unfold HoldsAt at H
  rw [hs] at H
  exact H
theorem Rep.atI {Φ news : Led} {σ : AH} (R : Rep Φ news σ) {a : Addr} {ao : AO} {s : Shp} (e : σ a = some ao) (hs : shape ao = some s) : ∃ d es n, (a, instObj s.C d) ∈ news ∧ (d, dictOf es n) ∈ news ∧ Ents s.ns s.vs es := by
  obtain ⟨dx, R⟩ := R
  have H := R.holds _ _ e
  unfold HoldsAt at H
  rw [hs] at H
  exact ⟨_, H⟩
theorem Rep.listAt {Φ news : Led} {σ : AH} (R : Rep Φ news σ) {a : Addr} {vs : List Value} (e : σ a = some (.list vs)) : ∃ us n, (a, listOf us n) ∈ news ∧ us.toList.map er = vs := by
  obtain ⟨o, h1, us, n, rfl, h2⟩ := R.at1 e rfl
  exact ⟨us, n, h1, h2⟩
theorem Rep.tupAt {Φ news : Led} {σ : AH} (R : Rep Φ news σ) {a : Addr} {vs : List Value} (e : σ a = some (.tup vs)) : ∃ us n, (a, tupOf us n) ∈ news ∧ us.toList.map er = vs := by
  obtain ⟨o, h1, us, n, rfl, h2⟩ := R.at1 e rfl
  exact ⟨us, n, h1, h2⟩
theorem Rep.mono {Φ news : Led} {σ τ : AH} (R : Rep Φ news σ) (h : ∀ a o, τ a = some o → σ a = some o) : Rep Φ news τ := by
  obtain ⟨dx, R⟩ := R
  have off : ∀ p, σ p = none → τ p = none := fun p hp => by
    cases z : τ p with
    | none => rfl
    | some o' => rw [h _ _ z] at hp; cases hp
  refine ⟨dx, ⟨R.nodup, fun a o e => R.holds _ _ (h _ _ e), fun a o e q => ?_, fun a o b o' e e' => R.inj _ _ _ _ (h _ _ e) (h _ _ e'), R.fr, fun p hp => off _ (R.off _ hp), fun p hp a o e => R.offd _ hp _ _ (h _ _ e)⟩⟩
  have := R.free _ _ (h _ _ e) q
  cases z : τ (dx a) with
  | none => rfl
  | some o' => rw [h _ _ z] at this; cases this
end Mine
end

section
open PySem PySem.W PyProof.Rows PySem.Spec PySem.Calls
namespace Mine

structure GP where
  w : World
  sc : Addr
  ns : List Int
structure Gd (G : GP) (h : Heap) : Prop where
  K : (Mine.hd.heap_39 G.w.params).In h
  top : ∃ p loose mean mg mb, Top p loose mean mg mb h
  scr : ∃ us : List Value, h.IsList G.sc us.toArray ∧ us.map er = G.ns.map vi
theorem Gd.keeps {G : GP} {h h' : Heap} (x : Gd G h) (k : ∀ b o, h.get? b = some o → h'.get? b = some o) : Gd G h' := by
  obtain ⟨p, l, me, mg, mb, T⟩ := x.top
  obtain ⟨us, ⟨o, ho, r⟩, e⟩ := x.scr
  exact ⟨x.K.keeps k, ⟨p, l, me, mg, mb, T.keeps k⟩, ⟨us, ⟨o, k _ _ ho, r⟩, e⟩⟩

structure FC where
  dp : Nat
  un : Nat
  gd : Option (List Code)
  cn : PySem.Str
  cs : Scope
  L : Addr
  a : Addr
  ccd : Value
  cl : List (PySem.Str × Addr)
  outer : List Env
  A₀ : Around
  base : Heap
  h₀ : Heap
  nm : List PySem.Str
  gl : List PySem.Str
abbrev FC.env (c : FC) : Env := envX c.cn c.cs c.L c.a c.ccd c.cl
abbrev FC.A (c : FC) : Around := ktrTop c.dp c.un c.gd c.cn c.cs c.L c.a c.ccd c.cl c.outer
abbrev dbg : PySem.Str := PySem.Str.ofString "__debug__"
structure FC.Ok (G : GP) (n : Nat) (c : FC) : Prop where
  bel : Below c.A₀ c.base c.outer c.h₀
  gd : Gd G c.h₀
  kind : c.cs.kind = .function
  loc : ∀ x ∈ c.nm, c.cs.names.lookup x = some .local ∧ (x == dbg) = false
  glo : ∀ x ∈ c.gl, c.cs.names.lookup x = some .globalImplicit ∧ (x == dbg) = false
  nd : c.nm.Nodup
  room : c.dp + 4 * n + 10 < recursionLimit
  units : c.un + 20 * n + 100 < cLine
theorem FC.Ok.le {G : GP} {n m : Nat} {c : FC} (h : c.Ok G n) (hm : m ≤ n) : c.Ok G m :=
  ⟨h.bel, h.gd, h.kind, h.loc, h.glo, h.nd, by have := h.room; omega, by have := h.units; omega⟩
noncomputable def LocAt (c : FC) (i : Nat) (x : PySem.Str) : Prop := c.nm[i]? = some x
noncomputable def GlAt (c : FC) (x : PySem.Str) : Prop := x ∈ c.gl
theorem FC.Ok.kLoc {G : GP} {n : Nat} {c : FC} (h : c.Ok G n) {i : Nat} {x : PySem.Str} (l : LocAt c i x) : c.env.kindOf x = some .local ∧ (x == dbg) = false :=
  h.loc x (List.mem_of_getElem? l)
theorem FC.Ok.kGl {G : GP} {n : Nat} {c : FC} (h : c.Ok G n) {x : PySem.Str} (l : GlAt c x) : c.env.kindOf x = some .globalImplicit ∧ (x == dbg) = false := h.glo x l

abbrev LE := List (Option Value)
noncomputable def EnvRel (nm : List PySem.Str) (ρ : LE) (m : PySem.Str → Option Value) : Prop := ∀ (i : Nat) (x : PySem.Str), nm[i]? = some x → ∀ v : Value, ρ[i]? = some (some v) → ∃ u, m x = some u ∧ er u = v
noncomputable def St (Φ : Led) (c : FC) (ρ : LE) (σ : AH) (s : Shared) : Prop := ∃ m news, Fr c.h₀ c.L s.heap m ∧ News c.h₀ c.L s.heap news ∧ EnvRel c.nm ρ m ∧ Rep Φ news σ
noncomputable def Sm (s s' : Shared) : Prop := s'.gens = s.gens ∧ s'.drawn = s.drawn ∧ s'.os = s.os
theorem Sm.rfl' (s : Shared) : Sm s s := ⟨rfl, rfl, rfl⟩
theorem Sm.trans {a b c : Shared} (x : Sm a b) (y : Sm b c) : Sm a c := ⟨y.1.trans x.1, y.2.1.trans x.2.1, y.2.2.trans x.2.2⟩
theorem St.same {Φ : Led} {c : FC} {ρ : LE} {σ : AH} {s s' : Shared} (h : St Φ c ρ σ s) (e : s'.heap = s.heap) : St Φ c ρ σ s' := by
  obtain ⟨m, news, F, N, r⟩ := h
  exact ⟨m, news, e ▸ F, e ▸ N, r⟩
theorem fin_t {Φ : Led} {c : FC} {ρ : LE} {σ : AH} {s : Shared} {k : Nat} {F : AH → Prop} (S : St Φ c ρ σ s) (h : F σ) : Sm s { s with toks := k } ∧ ∃ σ', F σ' ∧ St Φ c ρ σ' { s with toks := k } := ⟨⟨rfl, rfl, rfl⟩, σ, h, S.same rfl⟩
theorem fin_s {Φ : Led} {c : FC} {ρ : LE} {σ : AH} {s : Shared} {F : AH → Prop} (S : St Φ c ρ σ s) (h : F σ) : Sm s s ∧ ∃ σ', F σ' ∧ St Φ c ρ σ' s := ⟨.rfl' s, σ, h, S⟩
theorem EnvRel.nil {nm : List PySem.Str} {m : PySem.Str → Option Value} : EnvRel nm [] m := fun i x _ v h => by simp at h
theorem St.forget {Φ : Led} {c : FC} {ρ : LE} {σ : AH} {s : Shared} (h : St Φ c ρ σ s) : St Φ c [] σ s := by
  obtain ⟨m, news, F, N, _, R⟩ := h
  exact ⟨m, news, F, N, .nil, R⟩
theorem St.mono {Φ : Led} {c : FC} {ρ : LE} {σ τ : AH} {s : Shared} (h : St Φ c ρ σ s) (k : ∀ a o, τ a = some o → σ a = some o) : St Φ c ρ τ s := by
  obtain ⟨m, news, F, N, r, R⟩ := h
  exact ⟨m, news, F, N, r, R.mono k⟩

structure J (G : GP) (c : FC) (ρ : LE) (σ : AH) {α : Type} (t : Sem α) (Q : α → AH → Prop) : Prop where
  mk ::
  run : ∀ Φ s E, St Φ c ρ σ s → wpAny (MM G.w) c.A t (fun v s' => Sm s s' ∧ ∃ σ', Q v σ' ∧ St Φ c ρ σ' s') E s
abbrev JE (G : GP) (c : FC) (ρ : LE) (σ : AH) (t : Sem Value) (Q : Value → AH → Prop) : Prop := J G c ρ σ t (fun v σ' => Q (er v) σ')

section
variable {G : GP} {c : FC} {env : Env} {ρ : LE} {σ : AH} {α β : Type}
theorem J.pure {a : α} {Q : α → AH → Prop} (h : Q a σ) : J G c ρ σ (Pure.pure a : Sem α) Q := .mk fun Φ s _ S => wpAny_pure ⟨.rfl' s, σ, h, S⟩
theorem J.bind {m : Sem α} {f : α → Sem β} {Q : β → AH → Prop} (h : J G c ρ σ m (fun a σ1 => J G c ρ σ1 (f a) Q)) : J G c ρ σ (m >>= f) Q := .mk fun Φ s E S =>
  wpAny_bind (wpAny_mono (h.run Φ s E S) (fun a s1 ⟨z, σ1, h1, S1⟩ => wpAny_mono (h1.run Φ s1 E S1) (fun b s2 ⟨z2, σ2, h2, S2⟩ => ⟨z.trans z2, σ2, h2, S2⟩) fun _ _ x => x) fun _ _ x => x)
theorem J.mono {t : Sem α} {P Q : α → AH → Prop} (h : J G c ρ σ t P) (k : ∀ a τ, P a τ → Q a τ) : J G c ρ σ t Q := .mk fun Φ s E S =>
  wpAny_mono (h.run Φ s E S) (fun a s1 ⟨z, σ1, h1, S1⟩ => ⟨z, σ1, k _ _ h1, S1⟩) fun _ _ x => x
/-- the same, from an equation of trees -/
theorem J.eq {t t' : Sem α} {Q : α → AH → Prop} (e : t = t') (h : J G c ρ σ t' Q) : J G c ρ σ t Q := e ▸ h
theorem J.at {p : Pos} {Q : Unit → AH → Prop} (h : Q () σ) : J G c ρ σ (standAt p) Q := .mk fun Φ s _ S => wpAny_standAt ⟨.rfl' s, σ, h, S⟩
theorem J.hold {vs : List Value} {t : Sem α} {Q : α → AH → Prop} (h : J G c ρ σ t Q) : J G c ρ σ (holding vs t) Q := .mk fun Φ s E S => wpAny_holding (h.run Φ s E S)
theorem J.operate {vs : List Value} {t : Sem Value} {Q : Value → AH → Prop} (h : J G c ρ σ t Q) : J G c ρ σ (operate vs t) Q := .mk fun Φ s E S => wpAny_operate' (h.run Φ s E S)
theorem J.release {vs ks : List Value} {Q : Unit → AH → Prop} (h : Q () σ) : J G c ρ σ (release vs ks) Q := .mk fun Φ s _ S => wpAny_release' ⟨.rfl' s, σ, h, S⟩

/-! expressions -/
variable {Q : Value → AH → Prop} {n : Nat}
theorem je_none {k : Nat} {p : Pos} (h : Q .none σ) : JE G c ρ σ (eval (.Constant .none k p) env) Q := .mk fun Φ s _ S => Constant_none ⟨.rfl' s, σ, h, S⟩
theorem je_bool {b : Bool} {k : Nat} {p : Pos} (h : Q (.bool b) σ) : JE G c ρ σ (eval (.Constant (.bool b) k p) env) Q := .mk fun Φ s _ S => Constant_bool ⟨.rfl' s, σ, h, S⟩
theorem je_int {i : Int} {k : Nat} {p : Pos} (h : Q (vi i) σ) : JE G c ρ σ (eval (.Constant (.int i) k p) env) Q := .mk fun Φ s _ S => wpAny_Constant_int (fin_t (F := fun τ => Q _ τ) S h)
theorem je_loc {i : Nat} {x : PySem.Str} {p : Pos} {v : Value} (O : c.Ok G n) (l : LocAt c i x) (hv : ρ[i]? = some (some v)) (h : Q v σ) : JE G c ρ σ (eval (.Name x p) c.env) Q := by
  refine .mk fun Φ s E ⟨m, news, F, N, r, R⟩ => ?_
  obtain ⟨u, hu, eu⟩ := r _ _ l _ hv
  exact nameX_L F hu ⟨.rfl' s, σ, (by show Q (er u) σ; rw [eu]; exact h), m, news, F, N, r, R⟩ O.kind (O.kLoc l).1 (O.kLoc l).2
theorem je_gint {x : PySem.Str} {p : Pos} {i : Int} {t : Tok} (O : c.Ok G n) (l : GlAt c x) (hk : nsIn (Mine.hd.heap_39 G.w.params) mainGlobals x = some (some (.int i t))) (h : Q (vi i) σ) : JE G c ρ σ (eval (.Name x p) c.env) Q := by
  refine .mk fun Φ s E ⟨m, news, F, N, r, R⟩ => ?_
  obtain ⟨p', l', me, mg, mb, T⟩ := O.gd.top
  exact nameX_K F O.gd.K (topRead_of T) hk ⟨.rfl' s, σ, h, m, news, F, N, r, R⟩ O.kind (O.kGl l).1 (O.kGl l).2
/-- a name of the top's, as it is -/
theorem j_gname {x : PySem.Str} {p : Pos} {v : Value} {P : Value → AH → Prop} (O : c.Ok G n) (l : GlAt c x) (hk : nsIn (Mine.hd.heap_39 G.w.params) mainGlobals x = some (some v)) (h : P v σ) : J G c ρ σ (eval (.Name x p) c.env) P := by
  refine .mk fun Φ s E ⟨m, news, F, N, r, R⟩ => ?_
  obtain ⟨p', l', me, mg, mb, T⟩ := O.gd.top
  exact nameX_K F O.gd.K (topRead_of T) hk ⟨.rfl' s, σ, h, m, news, F, N, r, R⟩ O.kind (O.kGl l).1 (O.kGl l).2
theorem j_bname {x : PySem.Str} {p : Pos} {v : Value} {P : Value → AH → Prop} (O : c.Ok G n) (l : GlAt c x) (hk : nsIn (Mine.hd.heap_39 G.w.params) mainGlobals x = some none) (hv : bootBuiltins x = some v) (hn : x ≠ "__name__") (h : P v σ) : J G c ρ σ (eval (.Name x p) c.env) P := by
  refine .mk fun Φ s E ⟨m, news, F, N, r, R⟩ => ?_
  obtain ⟨p', l', me, mg, mb, T⟩ := O.gd.top
  exact nameX_B F O.gd.K (topRead_of T) hk hv hn ⟨.rfl' s, σ, h, m, news, F, N, r, R⟩ O.kind (O.kGl l).1 (O.kGl l).2

/-! two operands -/
noncomputable def JB (G : GP) (c : FC) (ρ : LE) (σ : AH) (op : Operator) (a b : Value) (Q : Value → AH → Prop) : Prop := ∀ u v, er u = a → er v = b → JE G c ρ σ (binaryOp op u v) Q
noncomputable def JC (G : GP) (c : FC) (ρ : LE) (σ : AH) (op : CmpOp) (a b : Value) (Q : Value → AH → Prop) : Prop := ∀ u v, er u = a → er v = b → JE G c ρ σ (compareOp op u v) Q
theorem je_bin {l r : Expr} {op : Operator} {p : Pos} (h : JE G c ρ σ (eval l env) (fun a σ1 => JE G c ρ σ1 (eval r env) (fun b σ2 => JB G c ρ σ2 op a b Q))) : JE G c ρ σ (eval (.BinOp l op r p) env) Q := by
  rw [eval_BinOp]
  exact J.bind (J.mono h fun u σ1 h1 => J.bind (J.hold (J.mono h1 fun v σ2 h2 => J.bind (J.at (J.operate (h2 u v rfl rfl))))))
theorem je_cmp {l r : Expr} {op : CmpOp} {p : Pos} (h : JE G c ρ σ (eval l env) (fun a σ1 => JE G c ρ σ1 (eval r env) (fun b σ2 => JC G c ρ σ2 op a b Q))) (hm : behindInMarks op r = false := by rfl) : JE G c ρ σ (eval (.Compare l [op] [r] p) env) Q := by
  rw [eval_Compare1, markedBehindIn_of_false hm]
  exact J.bind (J.mono h fun u σ1 h1 => J.bind (J.hold (J.mono h1 fun v σ2 h2 => J.bind (J.at (J.operate (h2 u v rfl rfl))))))
theorem je_chain {l r1 r2 : Expr} {op1 op2 : CmpOp} {p : Pos} (h : JE G c ρ σ (eval l env) (fun a σ1 => JE G c ρ σ1 (eval r1 env) (fun b σ2 => JC G c ρ σ2 op1 a b (fun t σ3 => ∃ q, t = .bool q ∧ (q = true → JE G c ρ σ3 (eval r2 env) (fun d σ4 => JC G c ρ σ4 op2 b d Q)) ∧ (q = false → Q (.bool false) σ3)))))
    (hm : lastMarks [op1, op2] [r1, r2] = false := by rfl) : JE G c ρ σ (eval (.Compare l [op1, op2] [r1, r2] p) env) Q := by
  have e : eval (.Compare l [op1, op2] [r1, r2] p) env = (do compareChain p (← eval l env) [op1, op2] (markedEach [op1, op2] [r1, r2] [eval r1 env, eval r2 env])) := rfl
  rw [e, markedEach_of_false _ _ _ hm]
  refine J.bind (J.mono h fun u σ1 h1 => ?_)
  refine J.eq (t' := (do
    let rv ← holding [u] (eval r1 env)
    standAt p
    let cc ← holding [u, rv] (compareOp op1 u rv)
    release [u, rv] [cc]
    if ← holding [cc, rv] (truthy cc) then compareChain p rv [op2] [eval r2 env] else pure cc)) rfl ?_
  refine J.bind (J.hold (J.mono h1 fun v σ2 h2 => J.bind (J.at (J.bind (J.hold (J.mono (h2 u v rfl rfl) fun t σ3 h3 => J.bind (J.release ?_)))))))
  obtain ⟨q, eq, h4, h5⟩ := h3
  have := er_bool eq
  subst this
  refine J.bind (J.hold ?_)
  refine J.eq (t' := Pure.pure q) rfl (J.pure ?_)
  cases q with
  | false => exact J.pure (h5 rfl)
  | true =>
    refine J.eq (t' := (do
      let rv ← holding [v] (eval r2 env)
      standAt p
      PySem.operate [v, rv] (compareOp op2 v rv))) rfl ?_
    exact J.bind (J.hold (J.mono (h4 rfl) fun x σ4 h6 => J.bind (J.at (J.operate (h6 v x rfl rfl)))))

section
variable {i j : Int}
theorem jb_add (h : Q (vi (i + j)) σ) : JB G c ρ σ .Add (vi i) (vi j) Q := fun u v eu ev => by
  obtain ⟨t, rfl⟩ := er_int eu; obtain ⟨t', rfl⟩ := er_int ev
  exact .mk fun Φ s E S => add_int (fin_t (F := fun τ => Q _ τ) S h)
theorem jb_sub (h : Q (vi (i - j)) σ) : JB G c ρ σ .Sub (vi i) (vi j) Q := fun u v eu ev => by
  obtain ⟨t, rfl⟩ := er_int eu; obtain ⟨t', rfl⟩ := er_int ev
  exact .mk fun Φ s E S => sub_int (fin_t (F := fun τ => Q _ τ) S h)
theorem jb_mul (hm : IntMulOk i j) (h : Q (vi (i * j)) σ) : JB G c ρ σ .Mult (vi i) (vi j) Q := fun u v eu ev => by
  obtain ⟨t, rfl⟩ := er_int eu; obtain ⟨t', rfl⟩ := er_int ev
  exact .mk fun Φ s E S => mul_int (fin_t (F := fun τ => Q _ τ) S h) hm
theorem jb_div (hj : j ≠ 0) (hd : Builtin.divisionGoesByPylong i j = false) (h : Q (vi (i.fdiv j)) σ) : JB G c ρ σ .FloorDiv (vi i) (vi j) Q := fun u v eu ev => by
  obtain ⟨t, rfl⟩ := er_int eu; obtain ⟨t', rfl⟩ := er_int ev
  exact .mk fun Φ s E S => floordiv_int hj (fin_t (F := fun τ => Q _ τ) S h) (.inl hd)
theorem jb_mod (hj : j ≠ 0) (h : Q (vi (i.fmod j)) σ) : JB G c ρ σ .Mod (vi i) (vi j) Q := fun u v eu ev => by
  obtain ⟨t, rfl⟩ := er_int eu; obtain ⟨t', rfl⟩ := er_int ev
  exact .mk fun Φ s E S => mod_int' hj (fin_t (F := fun τ => Q _ τ) S h)
theorem jb_pow (h0 : 0 ≤ j) (h1 : j ≤ 1000000) (h2 : i.natAbs < 2 ^ 64) (h : Q (vi (i ^ j.toNat)) σ) : JB G c ρ σ .Pow (vi i) (vi j) Q := fun u v eu ev => by
  obtain ⟨t, rfl⟩ := er_int eu; obtain ⟨t', rfl⟩ := er_int ev
  exact .mk fun Φ s E S => pow_int_small h0 h1 h2 (fin_t (F := fun τ => Q _ τ) S h)
theorem jb_and (h : Q (vi (Builtin.bitAnd i j)) σ) : JB G c ρ σ .BitAnd (vi i) (vi j) Q := fun u v eu ev => by
  obtain ⟨t, rfl⟩ := er_int eu; obtain ⟨t', rfl⟩ := er_int ev
  exact .mk fun Φ s E S => and_int (fin_t (F := fun τ => Q _ τ) S h)
theorem jc_eq (h : Q (.bool (i == j)) σ) : JC G c ρ σ .Eq (vi i) (vi j) Q := fun u v eu ev => by
  obtain ⟨t, rfl⟩ := er_int eu; obtain ⟨t', rfl⟩ := er_int ev
  exact .mk fun Φ s E S => eq_int ⟨.rfl' s, σ, h, S⟩
theorem jc_ne (h : Q (.bool (i != j)) σ) : JC G c ρ σ .NotEq (vi i) (vi j) Q := fun u v eu ev => by
  obtain ⟨t, rfl⟩ := er_int eu; obtain ⟨t', rfl⟩ := er_int ev
  exact .mk fun Φ s E S => ne_int ⟨.rfl' s, σ, h, S⟩
theorem jc_lt (h : Q (.bool (decide (i < j))) σ) : JC G c ρ σ .Lt (vi i) (vi j) Q := fun u v eu ev => by
  obtain ⟨t, rfl⟩ := er_int eu; obtain ⟨t', rfl⟩ := er_int ev
  exact .mk fun Φ s E S => lt_int ⟨.rfl' s, σ, h, S⟩
theorem jc_le (h : Q (.bool (decide (i ≤ j))) σ) : JC G c ρ σ .LtE (vi i) (vi j) Q := fun u v eu ev => by
  obtain ⟨t, rfl⟩ := er_int eu; obtain ⟨t', rfl⟩ := er_int ev
  exact .mk fun Φ s E S => PyProof.Rows.le_int ⟨.rfl' s, σ, h, S⟩
theorem jc_gt (h : Q (.bool (decide (j < i))) σ) : JC G c ρ σ .Gt (vi i) (vi j) Q := fun u v eu ev => by
  obtain ⟨t, rfl⟩ := er_int eu; obtain ⟨t', rfl⟩ := er_int ev
  exact .mk fun Φ s E S => gt_int ⟨.rfl' s, σ, h, S⟩
theorem jc_ge (h : Q (.bool (decide (j ≤ i))) σ) : JC G c ρ σ .GtE (vi i) (vi j) Q := fun u v eu ev => by
  obtain ⟨t, rfl⟩ := er_int eu; obtain ⟨t', rfl⟩ := er_int ev
  exact .mk fun Φ s E S => PyProof.Rows.ge_int ⟨.rfl' s, σ, h, S⟩
end
theorem er_eq_none (u : Value) : (u == Value.none) = (er u == Value.none) := by cases u <;> rfl
theorem jc_is_none {a : Value} (h : Q (.bool (a == .none)) σ) : JC G c ρ σ .Is a .none Q := fun u v eu ev => by
  rw [er_none ev]
  exact .mk fun Φ s E S => is_none_gen ⟨.rfl' s, σ, by rw [er_eq_none, eu]; exact h, S⟩
theorem jc_isnot_none {a : Value} (h : Q (.bool (!(a == .none))) σ) : JC G c ρ σ .IsNot a .none Q := fun u v eu ev => by
  rw [er_none ev]
  exact .mk fun Φ s E S => isnot_none_gen ⟨.rfl' s, σ, by rw [er_eq_none, eu]; exact h, S⟩

/-! tests -/
abbrev JT (G : GP) (c : FC) (env : Env) (ρ : LE) (σ : AH) (e : Expr) (Q : Bool → AH → Prop) : Prop := J G c ρ σ (isTrue e env (eval e env)) Q
variable {P : Bool → AH → Prop}
theorem j_truthy {b : Bool} (h : P b σ) : J G c ρ σ (truthy (.bool b)) P := .mk fun Φ s _ S => wpAny_truthy_bool ⟨.rfl' s, σ, h, S⟩
theorem jt_cmp {l r : Expr} {op : CmpOp} {p : Pos} (h : JE G c ρ σ (eval l env) (fun a σ1 => JE G c ρ σ1 (eval r env) (fun b σ2 => JC G c ρ σ2 op a b (fun t σ3 => ∃ q, t = .bool q ∧ P q σ3)))) (hm : behindInMarks op r = false := by rfl) : JT G c env ρ σ (.Compare l [op] [r] p) P := by
  show J G c ρ σ (isTrue (.Compare l [op] [r] p) env _) P
  rw [isTrue_Compare1, markedBehindIn_of_false hm]
  refine J.bind (J.mono h fun u σ1 h1 => J.bind (J.hold (J.mono h1 fun v σ2 h2 => J.bind (J.at (J.bind (J.operate (J.mono (h2 u v rfl rfl) fun t σ3 h3 => J.hold ?_)))))))
  obtain ⟨q, eq, h4⟩ := h3
  rw [er_bool eq]
  exact j_truthy h4
theorem jt_not {x : Expr} {p : Pos} (h : JT G c env ρ σ x (fun b σ1 => P (!b) σ1)) : JT G c env ρ σ (.UnaryOp .Not x p) P :=
  J.eq (t' := (do return !(← isTrue x env (eval x env)))) rfl (J.bind (J.mono h fun b σ1 h1 => J.pure h1))
theorem jt_val {e : Expr} (h : JE G c ρ σ (eval e env) (fun v σ1 => ∃ b, v = .bool b ∧ P b σ1)) (he : isTrue e env (eval e env) = (do let v ← eval e env; standAt e.pos; holding [v] (truthy v)) := by rfl) : JT G c env ρ σ e P := by
  refine J.eq he (J.bind (J.mono h fun v σ1 h1 => J.bind (J.at (J.hold ?_))))
  obtain ⟨b, eb, h2⟩ := h1
  rw [er_bool eb]
  exact j_truthy h2
/-! and, or as values (bools alone) -/
theorem je_and2 {x y : Expr} {p : Pos} (h : JE G c ρ σ (eval x env) (fun v σ1 => ∃ b, v = .bool b ∧ (b = true → JE G c ρ σ1 (eval y env) Q) ∧ (b = false → Q (.bool false) σ1))) : JE G c ρ σ (eval (.BoolOp .And [x, y] p) env) Q := by
  refine J.eq (t' := (do
    let v ← eval x env
    standAt p
    let cc ← holding [v] (truthy v)
    match BoolOp.And, cc with
    | .And, false | .Or, true => pure v
    | _, _ => eval y env)) rfl (J.bind (J.mono h fun v σ1 h1 => J.bind (J.at ?_)))
  obtain ⟨b, eb, h2, h3⟩ := h1
  rw [er_bool eb]
  refine J.bind (J.hold (j_truthy ?_))
  cases b with
  | true => exact h2 rfl
  | false => exact J.pure (h3 rfl)
theorem je_and3 {x y z : Expr} {p : Pos} (h : JE G c ρ σ (eval x env) (fun v σ1 => ∃ b, v = .bool b ∧ (b = true → JE G c ρ σ1 (eval (.BoolOp .And [y, z] p) env) Q) ∧ (b = false → Q (.bool false) σ1))) : JE G c ρ σ (eval (.BoolOp .And [x, y, z] p) env) Q := by
  refine J.eq (t' := (do
    let v ← eval x env
    standAt p
    let cc ← holding [v] (truthy v)
    match BoolOp.And, cc with
    | .And, false | .Or, true => pure v
    | _, _ => eval (.BoolOp .And [y, z] p) env)) rfl (J.bind (J.mono h fun v σ1 h1 => J.bind (J.at ?_)))
  obtain ⟨b, eb, h2, h3⟩ := h1
  rw [er_bool eb]
  refine J.bind (J.hold (j_truthy ?_))
  cases b with
  | true => exact h2 rfl
  | false => exact J.pure (h3 rfl)
theorem je_or2 {x y : Expr} {p : Pos} (h : JE G c ρ σ (eval x env) (fun v σ1 => ∃ b, v = .bool b ∧ (b = false → JE G c ρ σ1 (eval y env) Q) ∧ (b = true → Q (.bool true) σ1))) : JE G c ρ σ (eval (.BoolOp .Or [x, y] p) env) Q := by
  refine J.eq (t' := (do
    let v ← eval x env
    standAt p
    let cc ← holding [v] (truthy v)
    match BoolOp.Or, cc with
    | .And, false | .Or, true => pure v
    | _, _ => eval y env)) rfl (J.bind (J.mono h fun v σ1 h1 => J.bind (J.at ?_)))
  obtain ⟨b, eb, h2, h3⟩ := h1
  rw [er_bool eb]
  refine J.bind (J.hold (j_truthy ?_))
  cases b with
  | false => exact h2 rfl
  | true => exact J.pure (h3 rfl)
theorem je_if {t x y : Expr} {p : Pos} (h : JT G c env ρ σ t (fun b σ1 => (b = true → JE G c ρ σ1 (eval x env) Q) ∧ (b = false → JE G c ρ σ1 (eval y env) Q))) : JE G c ρ σ (eval (.IfExp t x y p) env) Q := by
  rw [eval_IfExp]
  refine J.bind (J.mono h fun b σ1 h1 => ?_)
  cases b with
  | true => exact h1.1 rfl
  | false => exact h1.2 rfl
theorem je_usub {x : Expr} {p : Pos} (h : JE G c ρ σ (eval x env) (fun v σ1 => ∃ i, v = vi i ∧ Q (vi (-i)) σ1)) : JE G c ρ σ (eval (.UnaryOp .USub x p) env) Q := by
  rw [eval_UnaryOp]
  refine J.bind (J.mono h fun v σ1 h1 => J.bind (J.at (J.hold ?_)))
  obtain ⟨i, ei, h2⟩ := h1
  obtain ⟨t, rfl⟩ := er_int ei
  exact .mk fun Φ s E S => neg_int ⟨⟨rfl, rfl, rfl⟩, σ1, h2, S.same rfl⟩
end
end Mine
end

section
open PySem PySem.W PyProof.Rows PySem.Spec PySem.Calls
namespace Mine

/-! statements -/
noncomputable def FlowP (Φ : Led) (c : FC) (N : LE → AH → Prop) (R : Value → AH → Prop) (s : Shared) (fl : Flow) (s' : Shared) : Prop := Sm s s' ∧ match fl with
  | .next => ∃ ρ' σ', N ρ' σ' ∧ St Φ c ρ' σ' s'
  | .ret v => ∃ σ', R (er v) σ' ∧ St Φ c [] σ' s'
  | _ => False
structure JX (G : GP) (c : FC) (ρ : LE) (σ : AH) (t : Sem Flow) (N : LE → AH → Prop) (R : Value → AH → Prop) : Prop where
  mk ::
  run : ∀ Φ s E, St Φ c ρ σ s → wpAny (MM G.w) c.A t (FlowP Φ c N R s) E s
theorem FlowP.step {Φ : Led} {c : FC} {N : LE → AH → Prop} {R : Value → AH → Prop} {s s1 : Shared} (z : Sm s s1) {fl : Flow} {s' : Shared} (h : FlowP Φ c N R s1 fl s') : FlowP Φ c N R s fl s' := ⟨z.trans h.1, h.2⟩
section
variable {G : GP} {c : FC} {ρ : LE} {σ : AH} {N : LE → AH → Prop} {R : Value → AH → Prop} {n : Nat}
theorem JX.mono {t : Sem Flow} {N' : LE → AH → Prop} {R' : Value → AH → Prop} (h : JX G c ρ σ t N R) (k : ∀ ρ σ, N ρ σ → N' ρ σ) (k' : ∀ v σ, R v σ → R' v σ) : JX G c ρ σ t N' R' := .mk fun Φ s E S =>
  wpAny_mono (h.run Φ s E S) (fun fl s' ⟨z, hf⟩ => ⟨z, by
    cases fl with
    | next => obtain ⟨ρ', σ', h1, h2⟩ := hf; exact ⟨ρ', σ', k _ _ h1, h2⟩
    | ret v => obtain ⟨σ', h1, h2⟩ := hf; exact ⟨σ', k' _ _ h1, h2⟩
    | _ => exact hf⟩) fun _ _ x => x
theorem js_nil (h : N ρ σ) : JX G c ρ σ (execs [] c.env) N R := .mk fun Φ s E S => wpAny_execs_nil ⟨.rfl' s, ρ, σ, h, S⟩
theorem js_cons {st : Stmt} {rest : List Stmt} (h : JX G c ρ σ (exec st c.env) (fun ρ1 σ1 => JX G c ρ1 σ1 (execs rest c.env) N R) R) : JX G c ρ σ (execs (st :: rest) c.env) N R := .mk fun Φ s E S =>
  wpAny_execs_cons (wpAny_mono (h.run Φ s E S) (fun fl s' ⟨z, hf⟩ => by
    cases fl with
    | next => obtain ⟨ρ1, σ1, h1, S1⟩ := hf; exact wpAny_mono (h1.run _ _ _ S1) (fun _ _ hf => hf.step z) fun _ _ x => x
    | ret v => exact ⟨z, hf⟩
    | _ => exact hf.elim) fun _ _ x => x)
theorem js_ret {e : Expr} {p : Pos} (h : JE G c ρ σ (eval e c.env) R) : JX G c ρ σ (exec (.Return (some e) p) c.env) N R := .mk fun Φ s E S =>
  wpAny_Return_some (wpAny_mono (h.run Φ s E S) (fun v s' ⟨z, σ', h1, S1⟩ => ⟨z, σ', h1, S1.forget⟩) fun _ _ x => x)
theorem js_ret0 {p : Pos} (h : R .none σ) : JX G c ρ σ (exec (.Return none p) c.env) N R := .mk fun Φ s E S => wpAny_Return_none ⟨.rfl' s, σ, h, S.forget⟩
theorem js_if {t : Expr} {b1 b2 : List Stmt} {p : Pos} (h : JT G c c.env ρ σ t (fun b σ1 => (b = true → JX G c ρ σ1 (execs b1 c.env) N R) ∧ (b = false → JX G c ρ σ1 (execs b2 c.env) N R))) : JX G c ρ σ (exec (.If t b1 b2 p) c.env) N R := .mk fun Φ s E S =>
  wpAny_If (wpAny_mono (h.run Φ s E S) (fun b s1 ⟨z, σ1, h1, S1⟩ => by
    cases b with
    | true => exact wpAny_mono ((h1.1 rfl).run _ _ _ S1) (fun _ _ hf => hf.step z) fun _ _ x => x
    | false => exact wpAny_mono ((h1.2 rfl).run _ _ _ S1) (fun _ _ hf => hf.step z) fun _ _ x => x) fun _ _ x => x)
theorem js_expr {e : Expr} {p : Pos} (h : JE G c ρ σ (eval e c.env) (fun v σ1 => v = .none ∧ N ρ σ1)) (hk : interactive c.env = false) (hs : swapsWith e none p.line c.env = pure false := by rfl) : JX G c ρ σ (exec (.Expr e p) c.env) N R := .mk fun Φ s E S =>
  wpAny_Expr (wpAny_mono (h.run Φ s E S) (fun v s' ⟨z, σ', ⟨h1, h2⟩, S1⟩ => by rw [er_none h1]; exact ⟨z, ρ, σ', h2, S1⟩) fun _ _ x => x) hk hs

theorem EnvRel.set {nm : List PySem.Str} {ρ : LE} {m : PySem.Str → Option Value} {i : Nat} {x : PySem.Str} {v : Value} (r : EnvRel nm ρ m) (nd : nm.Nodup) (l : nm[i]? = some x) : EnvRel nm (ρ.set i (some (er v))) (fun y => if y = x then some v else m y) := by
  intro j y hy u hu
  by_cases hij : j = i
  · subst hij
    rw [l] at hy; cases hy
    refine ⟨v, by simp, ?_⟩
    rw [List.getElem?_set] at hu
    simp only [if_true] at hu
    split at hu
    · simpa using hu
    · cases hu
  · have hxy : y ≠ x := by
      rintro rfl
      exact hij ((List.getElem?_inj (List.getElem?_eq_some_iff.mp hy).1 nd).mp (hy.trans l.symm))
    rw [List.getElem?_set, if_neg (fun q => hij q.symm)] at hu
    obtain ⟨w, hw, ew⟩ := r j y hy u hu
    exact ⟨w, by simp only [hxy, if_false]; exact hw, ew⟩
theorem j_store {i : Nat} {x : PySem.Str} {v : Value} (O : c.Ok G n) (l : LocAt c i x) {E : Value → Shared → Prop} {s : Shared} (S : St Φ c ρ σ s) {Q' : Unit → Shared → Prop}
    (h : ∀ s', Sm s s' → St Φ c (ρ.set i (some (er v))) σ s' → Q' () s') : wpAny (MM G.w) c.A (storeName c.env x v) Q' E s := by
  obtain ⟨m, news, F, N, r, R⟩ := S
  exact storeX_L F N (fun h' F' N' => h _ ⟨rfl, rfl, rfl⟩ ⟨_, news, F', N', r.set O.nd l, R⟩) O.kind (O.kLoc l).1
theorem js_assign {e : Expr} {x : PySem.Str} {i : Nat} {p p' : Pos} (O : c.Ok G n) (l : LocAt c i x) (h : JE G c ρ σ (eval e c.env) (fun v σ1 => N (ρ.set i (some v)) σ1)) (hs : swapsWith e (some (.Name x p')) p.line c.env = pure false := by rfl) :
    JX G c ρ σ (exec (.Assign [.Name x p'] e p) c.env) N R := .mk fun Φ s E S =>
  wpAny_Assign_Name (wpAny_mono (h.run Φ s E S) (fun v s1 ⟨z, σ1, h1, S1⟩ => j_store O l S1 fun s' z' S' => ⟨z.trans z', _, σ1, h1, S'⟩) fun _ _ x => x) hs
end

/-! contracts -/
abbrev SpecT := List Value → AH → (Value → AH → Prop) → Prop
noncomputable def RetP (Φ : Led) (c : FC) (ρ : LE) (Q : Value → AH → Prop) (E : Value → Shared → Prop) (s : Shared) (r : Result) (s' : Shared) : Prop := match r with
  | .ok (.ret v) => Sm s s' ∧ ∃ σ', Q (er v) σ' ∧ St Φ c ρ σ' s'
  | .ok _ => False
  | .error e => E e s'
structure Valid (G : GP) (f : Value) (n : Nat) (spec : SpecT) : Prop where
  mk ::
  run : ∀ c : FC, c.Ok G n → ∀ ρ σ vs Q, spec (vs.map er) σ Q → ∀ Φ s E, St Φ c ρ σ s → codeAny (MM G.w) c.A (.call f ⟨vs, []⟩) (RetP Φ c ρ Q E s) s
theorem Valid.je {G : GP} {f : Value} {n : Nat} {spec : SpecT} (V : Valid G f n spec) {c : FC} (O : c.Ok G n) {ρ : LE} {σ : AH} {vs : List Value} {Q : Value → AH → Prop} (h : spec (vs.map er) σ Q) : JE G c ρ σ (call f vs) Q := .mk fun Φ s E S =>
  wpAny_call (V.run c O ρ σ vs Q h Φ s E S)
theorem zip_rev_lookup {ps : List PySem.Str} {us : List Value} (nd : ps.Nodup) (hl : us.length = ps.length) {i : Nat} {x : PySem.Str} (hx : ps[i]? = some x) : (ps.zip us).reverse.lookup x = us[i]? := by
  induction ps generalizing us i with
  | nil => simp at hx
  | cons p ps ih =>
    cases us with
    | nil => simp at hl
    | cons u us =>
      simp only [List.nodup_cons] at nd
      simp only [List.zip_cons_cons, List.reverse_cons, List.lookup_append]
      cases i with
      | zero =>
        simp only [List.getElem?_cons_zero, Option.some.injEq] at hx
        subst hx
        have : (ps.zip us).reverse.lookup p = none := by
          rw [List.lookup_eq_none_iff]
          intro q hq
          rw [List.mem_reverse] at hq
          have := (List.of_mem_zip (a := q.1) (b := q.2) hq).1
          simp only [ne_eq, bne_iff_ne] at *
          intro e; exact nd.1 (e ▸ this)
        rw [this]; simp
      | succ i =>
        simp only [List.getElem?_cons_succ] at hx ⊢
        rw [ih nd.2 (by simpa using hl) hx]
        have hi : i < us.length := by
          have := (List.getElem?_eq_some_iff.mp hx).1
          simp only [List.length_cons] at hl; omega
        simp [hi]

theorem valid_def' {G : GP} {f : Addr} {n : Nat} {spec : SpecT} {name qual : PySem.Str} {params : Arguments} {body : List Stmt} {scope : Scope} {dV kV doc pm cdv ct oc : Value} {an od : Option Addr} {osl : Array (Option Value)} (ps nm gl : List PySem.Str) (k : Nat)
    (ho : (Mine.hd.heap_39 G.w.params).lookup f = some ⟨oc, od, .func (fnOf name qual params body scope dV kV doc pm an cdv ct), osl⟩) (hcd : codeIn (Mine.hd.heap_39 G.w.params) cdv qual = true)
    (hlen : ∀ vs σ Q, spec vs σ Q → vs.length = ps.length)
    (hbind : ∀ us : List Value, us.length = ps.length → ∀ s : Shared, (Mine.hd.heap_39 G.w.params).In s.heap → BindsTo s (fnOf name qual params body scope dV kV doc pm an cdv ct) ⟨us, []⟩ (ps.zip us))
    (hk : scope.kind = .function) (hco : scope.isCoroutine = false) (hgen : scope.isGenerator = false) (hcell : ∀ x ∈ scope.names, x.2 ≠ .cell)
    (hloc : ∀ x ∈ nm, scope.names.lookup x = some .local ∧ (x == dbg) = false) (hglo : ∀ x ∈ gl, scope.names.lookup x = some .globalImplicit ∧ (x == dbg) = false) (hnd : nm.Nodup) (hps : nm = ps ++ nm.drop k) (hpk : ps.length = k)
    (hb : ∀ (c : FC), c.Ok G n → c.nm = nm → c.gl = gl → ∀ vs σ Q, spec vs σ Q → JX G c (vs.map some ++ List.replicate (nm.length - k) none) σ (execs body c.env) (fun _ σ' => Q .none σ') Q) :
    Valid G (.ref f) (n + 1) spec := by
  refine .mk fun c O ρ σ vs Q hspec Φ s E S => ?_
  obtain ⟨m, news, F, N, r, R⟩ := S
  have hl := hlen _ _ _ hspec
  rw [List.length_map] at hl
  obtain ⟨tp, tl, tme, tmg, tmb, T⟩ := O.gd.top
  have hroom := O.room
  have hun := O.units
  have hpn : ∀ (i : Nat) (x : PySem.Str), ps[i]? = some x → nm[i]? = some x := fun i x h => by
    rw [hps, List.getElem?_append_left (List.getElem?_eq_some_iff.mp h).1]; exact h
  have hpsnd : ps.Nodup := by rw [hps] at hnd; exact (List.nodup_append.mp hnd).1
  refine (code_def O.bel F O.gd.K N T rfl rfl O.kind ho hcd (by show c.dp < _; omega) (hbind vs hl s (O.gd.K.keeps F.keep)) (fun y hy => ?_) (fun g L' h₁ FG F' N' B' X' T' => ?_) hco hgen hk hcell)
  · have hy' : y.1 ∈ ps := (List.of_mem_zip (a := y.1) (b := y.2) hy).1
    exact (hloc _ (by rw [hps]; exact List.mem_append_left _ hy')).1
  · have gd' : Gd G g := by
      have st : ∀ b o, c.h₀.get? b = some o → g.get? b = some o := fun b o e => FG.keep b o e
      exact O.gd.keeps st
    let c' : FC := { dp := c.dp + 1, un := c.un + 3, gd := c.gd, cn := qual, cs := scope, L := L', a := f, ccd := cdv, cl := [], outer := c.env :: c.outer, A₀ := c.A, base := c.base, h₀ := g, nm := nm, gl := gl }
    have O' : c'.Ok G n := ⟨B', gd', hk, hloc, hglo, hnd, by show c.dp + 1 + 4 * n + 10 < _; omega, by show c.un + 3 + 20 * n + 100 < _; omega⟩
    have S' : St Φ c' ((vs.map er).map some ++ List.replicate (nm.length - k) none) σ { s with heap := h₁, toks := s.toks + (ps.zip vs).length } := by
      refine ⟨_, news, F', N', fun i x hx v hv => ?_, R⟩
      by_cases hi : i < vs.length
      · rw [List.getElem?_append_left (by simpa using hi)] at hv
        have hip : i < ps.length := by omega
        have hpx : ps[i]? = some x := by
          have : ps[i]? = some ps[i] := List.getElem?_eq_getElem hip
          rw [this]
          have := hpn i _ this
          rw [show c'.nm[i]? = nm[i]? from rfl, this] at hx
          exact hx
        have hvi : vs[i]? = some vs[i] := List.getElem?_eq_getElem hi
        refine ⟨vs[i], (zip_rev_lookup hpsnd hl hpx).trans hvi, ?_⟩
        simp only [List.map_map, List.getElem?_map, hvi, Option.map_some, Function.comp, Option.some.injEq] at hv
        exact hv
      · rw [List.getElem?_append_right (by simpa using hi), List.getElem?_replicate] at hv
        split at hv <;> simp at hv
    refine wpAny_mono ((hb c' O' rfl rfl _ _ _ hspec).run _ _ _ S') (fun fl s' hf => ?_) fun _ _ x => x
    have key : ∀ v σ', Q (er v) σ' → Sm { s with heap := h₁, toks := s.toks + (ps.zip vs).length } s' → (∃ ρ', St Φ c' ρ' σ' s') → LeaveK c.h₀ c.L m g (RetP Φ c ρ Q E s) v s' := by
      rintro v σ' hq z ⟨ρ', m', news', F2, N2, r2, R2⟩
      exact ⟨L', m', news', F2, N2, fun F3 N3 => ⟨z, σ', hq, m, news', F3, N3, r, R2⟩⟩
    obtain ⟨z, hf⟩ := hf
    cases fl with
    | next => obtain ⟨ρ', σ', h1, h2⟩ := hf; exact key .none σ' h1 z ⟨ρ', h2⟩
    | ret v => obtain ⟨σ', h1, h2⟩ := hf; exact key v σ' h1 z ⟨[], h2⟩
    | _ => exact hf.elim
theorem valid_def {G : GP} {f : Addr} {n : Nat} {spec : SpecT} {name qual : PySem.Str} {params : Arguments} {body : List Stmt} {scope : Scope} {dV kV doc pm cdv ct oc : Value} {an od : Option Addr} {osl : Array (Option Value)} (ps nm gl : List PySem.Str) (k : Nat)
    (ho : (Mine.hd.heap_39 G.w.params).lookup f = some ⟨oc, od, .func (fnOf name qual params body scope dV kV doc pm an cdv ct), osl⟩) (hcd : codeIn (Mine.hd.heap_39 G.w.params) cdv qual = true)
    (hlen : ∀ vs σ Q, spec vs σ Q → vs.length = ps.length)
    (hbind : ∀ us : List Value, us.length = ps.length → bindArgs (fnOf name qual params body scope dV kV doc pm an cdv ct) ⟨us, []⟩ = pure (ps.zip us))
    (hk : scope.kind = .function) (hco : scope.isCoroutine = false) (hgen : scope.isGenerator = false) (hcell : ∀ x ∈ scope.names, x.2 ≠ .cell)
    (hloc : ∀ x ∈ nm, scope.names.lookup x = some .local ∧ (x == dbg) = false) (hglo : ∀ x ∈ gl, scope.names.lookup x = some .globalImplicit ∧ (x == dbg) = false) (hnd : nm.Nodup) (hps : nm = ps ++ nm.drop k) (hpk : ps.length = k)
    (hb : ∀ (c : FC), c.Ok G n → c.nm = nm → c.gl = gl → ∀ vs σ Q, spec vs σ Q → JX G c (vs.map some ++ List.replicate (nm.length - k) none) σ (execs body c.env) (fun _ σ' => Q .none σ') Q) :
    Valid G (.ref f) (n + 1) spec :=
  valid_def' ps nm gl k ho hcd hlen (fun us hl _ _ => BindsTo.of_eq (hbind us hl)) hk hco hgen hcell hloc hglo hnd hps hpk hb
end Mine
end

section
open PySem PySem.W PyProof.Rows PySem.Spec PySem.Calls
namespace Mine

section
variable {G : GP} {c : FC} {env : Env} {ρ : LE} {σ : AH} {n m : Nat} {Q : Value → AH → Prop}
theorem St.K {Φ : Led} {s : Shared} (S : St Φ c ρ σ s) (O : c.Ok G n) : (Mine.hd.heap_39 G.w.params).In s.heap := by
  obtain ⟨m, news, F, _⟩ := S
  exact O.gd.K.keeps F.keep

/-! calls -/
abbrev JA (G : GP) (c : FC) (env : Env) (ρ : LE) (σ : AH) (p : Pos) (es : List Expr) (Q : List Value → AH → Prop) : Prop := J G c ρ σ (spliced (backTo p (starEach es env))) (fun vs σ' => Q (vs.map er) σ')
theorem ja_nil {p : Pos} {Q : List Value → AH → Prop} (h : Q [] σ) : JA G c env ρ σ p [] Q := .mk fun Φ s E S => args_nil (fin_s (F := fun τ => Q _ τ) S h)
theorem ja_cons {p : Pos} {e : Expr} {es : List Expr} {Q : List Value → AH → Prop} (h : JE G c ρ σ (eval e env) (fun v σ1 => JA G c env ρ σ1 p es (fun vs σ2 => Q (v :: vs) σ2)))
    (he : starEach (e :: es) env = (false, eval e env) :: starEach es env := by rfl) : JA G c env ρ σ p (e :: es) Q := .mk fun Φ s E S =>
  args_cons (wpAny_mono (h.run Φ s E S) (fun v s1 ⟨z, σ1, h1, S1⟩ => wpAny_mono (h1.run Φ s1 E S1) (fun vs s2 ⟨z2, σ2, h2, S2⟩ => ⟨z.trans z2, σ2, h2, S2⟩) fun _ _ x => x) fun _ _ x => x) he
theorem j_callWith {f : Value} {first : List Value} {p : Pos} {e : Expr} {es : List Expr} (O : c.Ok G n) (hk : keepIn (Mine.hd.heap_39 G.w.params) f = true)
    (h : J G c ρ σ (spliced (backTo p (starEach (e :: es) env))) (fun vs σ1 => JE G c ρ σ1 (call f (first ++ vs)) Q))
    (he : starEach (e :: es) env = (false, eval e env) :: starEach es env := by rfl) (hp : (backTo p (starEach es env)).any (·.1) = false := by rfl) : JE G c ρ σ (callWith p f first (backTo p (starEach (e :: es) env)) []) Q := .mk fun Φ s E S =>
  callWith_K O.gd.K hk (wpAny_mono (h.run Φ s E S) (fun vs s1 ⟨z, σ1, h1, S1⟩ => ⟨S1.K O, wpAny_mono (h1.run Φ s1 E S1) (fun v s2 ⟨z2, σ2, h2, S2⟩ => ⟨z.trans z2, σ2, h2, S2⟩) fun _ _ x => x⟩) fun _ _ x => x) he hp
theorem j_callWith0 {f : Value} {first : List Value} {p : Pos} (O : c.Ok G n) (hk : keepIn (Mine.hd.heap_39 G.w.params) f = true) (h : JE G c ρ σ (call f (first ++ [])) Q) : JE G c ρ σ (callWith p f first (backTo p (starEach [] env)) []) Q := .mk fun Φ s E S =>
  callWith_K0 (S.K O) hk (h.run Φ s E S)
theorem j_callB {id : String} {first : List Value} {p : Pos} {e : Expr} {es : List Expr}
    (h : J G c ρ σ (spliced (backTo p (starEach (e :: es) env))) (fun vs σ1 => JE G c ρ σ1 (call (.builtin id) (first ++ vs)) Q))
    (he : starEach (e :: es) env = (false, eval e env) :: starEach es env := by rfl) (hp : (backTo p (starEach es env)).any (·.1) = false := by rfl) : JE G c ρ σ (callWith p (.builtin id) first (backTo p (starEach (e :: es) env)) []) Q := .mk fun Φ s E S =>
  callWith_method1 (wpAny_mono (h.run Φ s E S) (fun vs s1 ⟨z, σ1, h1, S1⟩ => wpAny_mono (h1.run Φ s1 E S1) (fun v s2 ⟨z2, σ2, h2, S2⟩ => ⟨z.trans z2, σ2, h2, S2⟩) fun _ _ x => x) fun _ _ x => x) he hp
theorem j_callB0 {id : String} {first : List Value} {p : Pos} (h : JE G c ρ σ (call (.builtin id) first) Q) : JE G c ρ σ (callWith p (.builtin id) first (backTo p (starEach [] env)) []) Q := .mk fun Φ s E S =>
  callWith_method0 (h.run Φ s E S)
theorem eval_CallName (x : PySem.Str) (xp : Pos) (args : List Expr) (p : Pos) (env : Env) : eval (.Call (.Name x xp) args [] p) env = (do callWith p (← eval (.Name x xp) env) [] (backTo p (starEach args env)) []) := rfl

/-- a def or a class of the top's -/
structure TopFn (G : GP) (x : PySem.Str) (f : Addr) : Prop where
  at_ : nsIn (Mine.hd.heap_39 G.w.params) mainGlobals x = some (some (.ref f))
  keep : keepIn (Mine.hd.heap_39 G.w.params) (.ref f) = true
theorem je_call {x : PySem.Str} {xp p : Pos} {e : Expr} {es : List Expr} {f : Addr} {spec : SpecT} (O : c.Ok G m) (g : GlAt c x) (T : TopFn G x f) (V : Valid G (.ref f) n spec) (hn : n ≤ m)
    (h : JA G c c.env ρ σ p (e :: es) (fun vs σ1 => spec vs σ1 Q)) (he : starEach (e :: es) c.env = (false, eval e c.env) :: starEach es c.env := by rfl) (hp : (backTo p (starEach es c.env)).any (·.1) = false := by rfl) : JE G c ρ σ (eval (.Call (.Name x xp) (e :: es) [] p) c.env) Q := by
  rw [eval_CallName]
  refine J.bind (j_gname O g T.at_ (j_callWith O T.keep (J.mono h fun vs σ1 h1 => ?_) he hp))
  exact V.je (O.le hn) h1
theorem je_call0 {x : PySem.Str} {xp p : Pos} {f : Addr} {spec : SpecT} (O : c.Ok G m) (g : GlAt c x) (T : TopFn G x f) (V : Valid G (.ref f) n spec) (hn : n ≤ m)
    (h : spec [] σ Q) : JE G c ρ σ (eval (.Call (.Name x xp) [] [] p) c.env) Q := by
  rw [eval_CallName]
  exact J.bind (j_gname O g T.at_ (j_callWith0 O T.keep (V.je (O.le hn) h)))
/-- a built-in function -/
structure TopB (G : GP) (x : PySem.Str) (v : Value) : Prop where
  at_ : nsIn (Mine.hd.heap_39 G.w.params) mainGlobals x = some none
  boot : bootBuiltins x = some v
  ne : x ≠ "__name__"
theorem je_callb {x : PySem.Str} {xp p : Pos} {e : Expr} {es : List Expr} {id : String} (O : c.Ok G m) (g : GlAt c x) (T : TopB G x (.builtin id))
    (h : J G c ρ σ (spliced (backTo p (starEach (e :: es) c.env))) (fun vs σ1 => JE G c ρ σ1 (call (.builtin id) vs) Q)) (he : starEach (e :: es) c.env = (false, eval e c.env) :: starEach es c.env := by rfl) (hp : (backTo p (starEach es c.env)).any (·.1) = false := by rfl) : JE G c ρ σ (eval (.Call (.Name x xp) (e :: es) [] p) c.env) Q := by
  rw [eval_CallName]
  exact J.bind (j_bname O g T.at_ T.boot T.ne (j_callB h he hp))

/-! methods -/
structure Meth (G : GP) (C : Addr) (ns : List PySem.Str) (name : PySem.Str) (f : Addr) : Prop where
  get : plainGet (Mine.hd.heap_39 G.w.params) C name = true
  find : findIn (Mine.hd.heap_39 G.w.params) (.ref C) name = some (some (.ref f))
  fn : isFn (Mine.hd.heap_39 G.w.params) (.ref f) = true
  keep : keepIn (Mine.hd.heap_39 G.w.params) (.ref f) = true
  no : name ∉ ns
theorem Ents.getL_none {ns : List PySem.Str} {vs : List Value} {es : List DictEntry} {x : PySem.Str} (h : Ents ns vs es) (hx : x ∉ ns) : getL x es = some none := by
  have key : es.find? (·.key.isStr x) = none ∧ es.any (·.refKey) = false := by
    induction ns generalizing vs es with
    | nil => cases vs <;> cases es <;> simp_all [Ents]
    | cons y ns ih =>
      cases vs with
      | nil => simp [Ents] at h
      | cons v vs =>
        cases es with
        | nil => simp [Ents] at h
        | cons e es =>
          obtain ⟨⟨t, et⟩, _, hr⟩ := h
          simp only [List.mem_cons, not_or] at hx
          obtain ⟨i1, i2⟩ := ih hr hx.2
          have hy : (e.key.isStr x) = false := by rw [et]; simp only [Value.isStr]; simpa using fun q => hx.1 q.symm
          have hr : e.refKey = false := by simp [DictEntry.refKey, et]
          exact ⟨by rw [List.find?_cons, hy]; exact i1, by rw [List.any_cons, hr, i2]; rfl⟩
  unfold getL
  rw [key.1, key.2]; rfl
theorem Ents.getL_some {ns : List PySem.Str} {vs : List Value} {es : List DictEntry} {x : PySem.Str} {v : Value} {i : Nat} (h : Ents ns vs es) (nd : ns.Nodup) (hx : ns[i]? = some x) (hv : vs[i]? = some v) : ∃ u, getL x es = some (some u) ∧ er u = v := by
  have key : ∃ e, es.find? (·.key.isStr x) = some e ∧ er e.val = v := by
    induction ns generalizing vs es i with
    | nil => simp at hx
    | cons y ns ih =>
      cases vs with
      | nil => simp [Ents] at h
      | cons v' vs =>
        cases es with
        | nil => simp [Ents] at h
        | cons e es =>
          obtain ⟨⟨t, et⟩, ev, hr⟩ := h
          simp only [List.nodup_cons] at nd
          cases i with
          | zero =>
            simp only [List.getElem?_cons_zero, Option.some.injEq] at hx hv
            subst hx hv
            exact ⟨e, by rw [List.find?_cons, show e.key.isStr y = true by rw [et]; simp [Value.isStr]], ev⟩
          | succ i =>
            simp only [List.getElem?_cons_succ] at hx hv
            have hy : (e.key.isStr x) = false := by
              rw [et]; simp only [Value.isStr]
              simpa using fun q : y = x => nd.1 (q ▸ List.mem_of_getElem? hx)
            obtain ⟨e', h1, h2⟩ := ih hr nd.2 hx hv
            exact ⟨e', by rw [List.find?_cons, hy]; exact h1, h2⟩
  obtain ⟨e, h1, h2⟩ := key
  exact ⟨e.val, by unfold getL; rw [h1], h2⟩
theorem j_method {C : Addr} {ns : List PySem.Str} {name : PySem.Str} {f a : Addr} {ao : AO} {s : Shp} {pl : Sem Bool} {P : Value × List Value → AH → Prop} (O : c.Ok G n) (M : Meth G C ns name f) (ha : σ a = some ao) (hs : shape ao = some s) (hC : s.C = C) (hns : s.ns = ns)
    (h : P (.ref f, [.ref a]) σ) : J G c ρ σ (getMethod (.ref a) name pl) P := .mk fun Φ s' E S => by
  subst hC hns
  have S0 := S
  obtain ⟨m, news, F, N, r, R⟩ := S
  obtain ⟨d, es, k, h1, h2, h3⟩ := R.atI ha hs
  exact method_inst F O.gd.K (W.InstAt.of_news N h1 h2) M.get M.find M.fn (h3.getL_none M.no) (fin_s (F := fun τ => P _ τ) S0 h)
theorem eval_MethName (x : PySem.Str) (xp ap p : Pos) (name : PySem.Str) (args : List Expr) (env : Env) : eval (.Call (.Attribute (.Name x xp) name ap) args [] p) env = (do
    let ov ← eval (.Name x xp) env
    standAt ap.atName
    methodCall (.Name x xp) name ap p env ov (args.length + 0) (backTo p (starEach args env)) []) := rfl
end
end Mine
end

section
open PySem PySem.W PyProof.Rows PySem.Spec PySem.Calls
namespace Mine
section
variable {G : GP} {c : FC} {env : Env} {ρ : LE} {σ : AH} {n m : Nat} {Q : Value → AH → Prop} {N : LE → AH → Prop} {R : Value → AH → Prop}

theorem je_meth {C : Addr} {ns : List PySem.Str} {o : Expr} {name : PySem.Str} {ap p : Pos} {e : Expr} {es : List Expr} {f : Addr} {spec : SpecT} {pl : Sem Bool} (O : c.Ok G m) (M : Meth G C ns name f) (V : Valid G (.ref f) n spec) (hn : n ≤ m)
    (h : JE G c ρ σ (eval o env) (fun v σ1 => ∃ a ao s, v = .ref a ∧ σ1 a = some ao ∧ shape ao = some s ∧ s.C = C ∧ s.ns = ns ∧ JA G c env ρ σ1 p (e :: es) (fun vs σ2 => spec (.ref a :: vs) σ2 Q)))
    (hx : eval (.Call (.Attribute o name ap) (e :: es) [] p) env = (do
      let ov ← eval o env
      standAt ap.atName
      let (f, first) ← holding [ov] (getMethod ov name pl)
      callWith p f first (backTo p (starEach (e :: es) env)) []) := by rfl)
    (he : starEach (e :: es) env = (false, eval e env) :: starEach es env := by rfl) (hp : (backTo p (starEach es env)).any (·.1) = false := by rfl) : JE G c ρ σ (eval (.Call (.Attribute o name ap) (e :: es) [] p) env) Q := by
  refine J.eq hx (J.bind (J.mono h fun ov σ1 h1 => J.bind (J.at (J.bind (J.hold ?_)))))
  obtain ⟨a, ao, s, ev, ha, hs, hC, hns, h2⟩ := h1
  rw [er_ref ev]
  refine j_method O M ha hs hC hns ?_
  exact j_callWith O M.keep (J.mono h2 fun vs σ2 h3 => V.je (O.le hn) h3) he hp
theorem je_meth0 {C : Addr} {ns : List PySem.Str} {o : Expr} {name : PySem.Str} {ap p : Pos} {f : Addr} {spec : SpecT} {pl : Sem Bool} (O : c.Ok G m) (M : Meth G C ns name f) (V : Valid G (.ref f) n spec) (hn : n ≤ m)
    (h : JE G c ρ σ (eval o env) (fun v σ1 => ∃ a ao s, v = .ref a ∧ σ1 a = some ao ∧ shape ao = some s ∧ s.C = C ∧ s.ns = ns ∧ spec [.ref a] σ1 Q))
    (hx : eval (.Call (.Attribute o name ap) [] [] p) env = (do
      let ov ← eval o env
      standAt ap.atName
      let (f, first) ← holding [ov] (getMethod ov name pl)
      callWith p f first (backTo p (starEach [] env)) []) := by rfl) : JE G c ρ σ (eval (.Call (.Attribute o name ap) [] [] p) env) Q := by
  refine J.eq hx (J.bind (J.mono h fun ov σ1 h1 => J.bind (J.at (J.bind (J.hold ?_)))))
  obtain ⟨a, ao, s, ev, ha, hs, hC, hns, h2⟩ := h1
  rw [er_ref ev]
  refine j_method O M ha hs hC hns ?_
  exact j_callWith0 O M.keep (V.je (O.le hn) h2)

/-! lists' methods -/
theorem j_listMeth {name : PySem.Str} {id : String} {a : Addr} {vs : List Value} {pl : Sem Bool} {P : Value × List Value → AH → Prop} (slot : Slot "list" name id) (ty : typeOf (.builtin id) = pure (.type "method_descriptor")) (ha : σ a = some (.list vs)) (h : P (.builtin id, [.ref a]) σ) :
    J G c ρ σ (getMethod (.ref a) name pl) P := .mk fun Φ s E S => by
  have S0 := S
  obtain ⟨m, news, F, N, r, R⟩ := S
  obtain ⟨us, k, h1, _⟩ := R.listAt ha
  exact listMethod_K N h1 slot ty (fin_s (F := fun τ => P _ τ) S0 h)
theorem j_append {a : Addr} {vs : List Value} {u : Value} (ha : σ a = some (.list vs)) (hz : vs.length ≤ 1000) (h : Q .none (upd σ a (.list (vs ++ [er u])))) : JE G c ρ σ (call (.builtin "list.append") [.ref a, u]) Q := .mk fun Φ s E S => by
  obtain ⟨m, news, F, N, r, R⟩ := S
  obtain ⟨o, h1, ⟨us, k, rfl, h2⟩, h3⟩ := R.turn (ao' := .list (vs ++ [er u])) ha rfl rfl
  obtain ⟨news', U, R'⟩ := h3 (listOf (us.push u) (k + 1)) ⟨_, _, rfl, by simp [h2]⟩
  have hl : us.toList.length = vs.length := by rw [← h2, List.length_map]
  exact append_K F N U (fun h' F' N' => ⟨⟨rfl, rfl, rfl⟩, _, h, m, news', F', N', r, R'⟩) (by rw [sizeLine_eq]; rw [Array.length_toList] at hl; omega)
theorem je_append {o e : Expr} {ap p : Pos} {pl : Sem Bool} (h : JE G c ρ σ (eval o env) (fun v σ1 => ∃ a vs, v = .ref a ∧ σ1 a = some (.list vs) ∧ JE G c ρ σ1 (eval e env) (fun w σ2 => ∃ vs', σ2 a = some (.list vs') ∧ vs'.length ≤ 1000 ∧ Q .none (upd σ2 a (.list (vs' ++ [w]))))))
    (hx : eval (.Call (.Attribute o "append" ap) [e] [] p) env = (do
      let ov ← eval o env
      standAt ap.atName
      let (f, first) ← holding [ov] (getMethod ov "append" pl)
      callWith p f first (backTo p (starEach [e] env)) []) := by rfl)
    (he : starEach [e] env = (false, eval e env) :: starEach [] env := by rfl) : JE G c ρ σ (eval (.Call (.Attribute o "append" ap) [e] [] p) env) Q := by
  refine J.eq hx (J.bind (J.mono h fun ov σ1 h1 => J.bind (J.at (J.bind (J.hold ?_)))))
  obtain ⟨a, vs, ev, ha, h2⟩ := h1
  rw [er_ref ev]
  refine j_listMeth PySem.F.slot_list_append PySem.F.type_list_append ha ?_
  refine j_callB (.mk fun Φ s E S => ?_) he rfl
  refine args_cons (wpAny_mono (h2.run Φ s E S) (fun w s1 ⟨z, σ2, ⟨vs', ha', hz, h3⟩, S1⟩ => args_nil ⟨z, σ2, ?_, S1⟩) fun _ _ x => x) he
  exact j_append ha' hz h3
theorem kl_last_of {y : Value} : ∀ {p : List Value}, kl_last (p ++ [y]) = some (p, y)
  | [] => rfl
  | x :: p => by
    have ih := kl_last_of (y := y) (p := p)
    show (match kl_last (p ++ [y]) with | some (p, y) => some (x :: p, y) | none => some ([], x)) = _
    rw [ih]
theorem j_pop {a : Addr} {vs : List Value} {v : Value} (ha : σ a = some (.list (vs ++ [v]))) (hz : vs.length ≤ 1000) (h : Q v (upd σ a (.list vs))) : JE G c ρ σ (call (.builtin "list.pop") [.ref a]) Q := .mk fun Φ s E S => by
  obtain ⟨m, news, F, N, r, R⟩ := S
  obtain ⟨o, h1, ⟨us, k, rfl, h2⟩, h3⟩ := R.turn (ao' := .list vs) ha rfl rfl
  have hne : us.toList ≠ [] := by intro q; rw [q] at h2; simp at h2
  obtain ⟨p, y, ep⟩ : ∃ p y, us.toList = p ++ [y] := ⟨_, _, (List.dropLast_concat_getLast hne).symm⟩
  rw [ep, List.map_append, List.map_cons, List.map_nil] at h2
  obtain ⟨h4, h5⟩ := List.append_inj' h2 rfl
  simp only [List.cons.injEq, and_true] at h5
  obtain ⟨news', U, R'⟩ := h3 (listOf p.toArray (k + 1)) ⟨_, _, rfl, h4⟩
  have hl : p.length = vs.length := by rw [← h4, List.length_map]
  have e : us = (p ++ [y]).toArray := by rw [← ep, Array.toArray_toList]
  subst e
  exact kl_pop F N (by rw [List.toList_toArray]; exact kl_last_of) U (by rw [List.toList_toArray, List.length_append, sizeLine_eq]; simp only [List.length_cons, List.length_nil]; omega) fun h' F' N' => ⟨⟨rfl, rfl, rfl⟩, _, by rw [h5]; exact h, m, news', F', N', r, R'⟩
theorem je_pop {o : Expr} {ap p : Pos} {pl : Sem Bool} (h : JE G c ρ σ (eval o env) (fun v σ1 => ∃ a vs w, v = .ref a ∧ σ1 a = some (.list (vs ++ [w])) ∧ vs.length ≤ 1000 ∧ Q w (upd σ1 a (.list vs))))
    (hx : eval (.Call (.Attribute o "pop" ap) [] [] p) env = (do
      let ov ← eval o env
      standAt ap.atName
      let (f, first) ← holding [ov] (getMethod ov "pop" pl)
      callWith p f first (backTo p (starEach [] env)) []) := by rfl) : JE G c ρ σ (eval (.Call (.Attribute o "pop" ap) [] [] p) env) Q := by
  refine J.eq hx (J.bind (J.mono h fun ov σ1 h1 => J.bind (J.at (J.bind (J.hold ?_)))))
  obtain ⟨a, vs, w, ev, ha, hz, h2⟩ := h1
  rw [er_ref ev]
  exact j_listMeth PySem.F.slot_list_pop PySem.F.type_list_pop ha (j_callB0 (j_pop ha hz h2))

/-! attributes -/
structure Fld (G : GP) (C : Addr) (x : PySem.Str) : Prop where
  get : plainGet (Mine.hd.heap_39 G.w.params) C x = true
  dict : hasDictIn (Mine.hd.heap_39 G.w.params) C = true
  find : findIn (Mine.hd.heap_39 G.w.params) (.ref C) x = some none
  set : findIn (Mine.hd.heap_39 G.w.params) (.ref C) "__setattr__" = some (some (.builtin "object.__setattr__"))
  over : plainOver (Mine.hd.heap_39 G.w.params) C = true
  taker : takerIn (Mine.hd.heap_39 G.w.params) C x = some none
theorem er_handed {u v : Value} (h : er u = v) (hv : ∀ i, v ≠ .builtin i) : handedIn u = true := by
  cases u <;> try rfl
  exact absurd h.symm (hv _)
theorem je_attr {o : Expr} {x : PySem.Str} {p : Pos} {i : Nat} (O : c.Ok G n) (h : JE G c ρ σ (eval o env) (fun v σ1 => ∃ a ao s w, v = .ref a ∧ σ1 a = some ao ∧ shape ao = some s ∧ Fld G s.C x ∧ s.ns.Nodup ∧ s.ns[i]? = some x ∧ s.vs[i]? = some w ∧ (∀ i, w ≠ .builtin i) ∧ Q w σ1))
    (he : eval (.Attribute o x p) env = (do
      let ov ← eval o env
      standAt p.atName
      let r ← holding [ov] (getAttr ov x true)
      letTemporaryGo o ov r
      pure r) := by rfl) : JE G c ρ σ (eval (.Attribute o x p) env) Q := .mk fun Φ s E S => by
  refine Attribute_any_ (wpAny_mono (h.run Φ s E S) (fun v s1 ⟨z, σ1, h1, S1⟩ => ?_) fun _ _ x => x) he
  obtain ⟨a, ao, sh, w, ev, ha, hs, Fd, nd, hx, hw, hb, hq⟩ := h1
  have S10 := S1
  obtain ⟨m, news, F, N, r, R⟩ := S1
  obtain ⟨d, es, k, h1, h2, h3⟩ := R.atI ha hs
  obtain ⟨u, hu, eu⟩ := h3.getL_some nd hx hw
  rw [er_ref ev]
  refine get_own F O.gd.K (W.InstAt.of_news N h1 h2) Fd.get Fd.dict Fd.find rfl hu (er_handed eu hb) ⟨z.trans ⟨rfl, rfl, rfl⟩, σ1, ?_, S10.same rfl⟩
  rw [eu]; exact hq

theorem Ents.len {ns : List PySem.Str} {vs : List Value} {es : List DictEntry} (h : Ents ns vs es) : es.length = ns.length := by
  induction ns generalizing vs es with
  | nil => cases vs <;> cases es <;> simp_all [Ents]
  | cons y ns ih => cases vs <;> cases es <;> simp_all [Ents]; exact ih h.2.2
theorem Ents.isSome {ns : List PySem.Str} {vs : List Value} {es : List DictEntry} (h : Ents ns vs es) (x : PySem.Str) : (getL x es).isSome = true := by
  have : es.any (·.refKey) = false := by
    induction ns generalizing vs es with
    | nil => cases vs <;> cases es <;> simp_all [Ents]
    | cons y ns ih =>
      cases vs with
      | nil => simp [Ents] at h
      | cons v vs =>
        cases es with
        | nil => simp [Ents] at h
        | cons e es =>
          obtain ⟨⟨t, et⟩, _, hr⟩ := h
          rw [List.any_cons, ih hr, show e.refKey = false by simp [DictEntry.refKey, et]]; rfl
  unfold getL
  rw [this]
  cases es.find? (·.key.isStr x) <;> rfl
/-- the fields behind a store -/
inductive SetF (x : PySem.Str) (v : Value) : List PySem.Str → List Value → List PySem.Str → List Value → Prop
  | new : SetF x v [] [] [x] [v]
  | here {ns vs w} : SetF x v (x :: ns) (w :: vs) (x :: ns) (v :: vs)
  | on {y w ns vs ns' vs'} : y ≠ x → SetF x v ns vs ns' vs' → SetF x v (y :: ns) (w :: vs) (y :: ns') (w :: vs')
theorem Ents.set {x : PySem.Str} {u : Value} {hs : Int} {t : Tok} {ns ns' : List PySem.Str} {vs vs' : List Value} (h : SetF x (er u) ns vs ns' vs') : ∀ {es : List DictEntry}, Ents ns vs es → Ents ns' vs' (putL x hs (.str x t) u es) := by
  induction h with
  | new => intro es h; cases es <;> simp_all [Ents, putL]
  | here =>
    intro es h
    cases es with
    | nil => simp [Ents] at h
    | cons e es =>
      obtain ⟨⟨t', et⟩, _, hr⟩ := h
      unfold putL
      rw [show e.key.isStr x = true by rw [et]; simp [Value.isStr]]
      exact ⟨⟨t', et⟩, rfl, hr⟩
  | on hy _ ih =>
    intro es h
    cases es with
    | nil => simp [Ents] at h
    | cons e es =>
      obtain ⟨⟨t', et⟩, ev, hr⟩ := h
      unfold putL
      rw [show e.key.isStr x = false by rw [et]; simp only [Value.isStr]; simpa using hy]
      exact ⟨⟨t', et⟩, ev, ih hr⟩
theorem SetF.len {x : PySem.Str} {v : Value} {ns ns' : List PySem.Str} {vs vs' : List Value} (h : SetF x v ns vs ns' vs') : ns'.length ≤ ns.length + 1 := by
  induction h <;> simp_all
theorem js_setattr {o e : Expr} {x : PySem.Str} {p p' : Pos} (O : c.Ok G n) (h : JE G c ρ σ (eval e c.env) (fun v σ1 => JE G c ρ σ1 (eval o c.env) (fun w σ2 => ∃ a ao ao' s s', w = .ref a ∧ σ2 a = some ao ∧ shape ao = some s ∧ shape ao' = some s' ∧ s'.C = s.C ∧ Fld G s.C x ∧ SetF x v s.ns s.vs s'.ns s'.vs ∧ s.ns.length ≤ 100 ∧ N ρ (upd σ2 a ao'))))
    (hs : swapsWith e (some (.Attribute o x p')) p.line c.env = pure false := by rfl) : JX G c ρ σ (exec (.Assign [.Attribute o x p'] e p) c.env) N R := .mk fun Φ s E S => by
  refine plainObj_wpAny_Assign_Attribute (wpAny_mono (h.run Φ s E S) (fun v s1 ⟨z, σ1, h1, S1⟩ => wpAny_mono (h1.run Φ s1 E S1) (fun w s2 ⟨z2, σ2, h2, S2⟩ => ?_) fun _ _ x => x) fun _ _ x => x) hs
  obtain ⟨a, ao, ao', sh, sh', ew, ha, hsh, hsh', hC, Fd, hset, hz, hn⟩ := h2
  obtain ⟨m, news, F, N, r, R⟩ := S2
  obtain ⟨d, es, k, h1, h2, h3, h4⟩ := R.turnI ha hsh hsh' hC
  have hes := h3.set (hs := PyData.keyHash G.w.params x) (t := s2.toks + 1) hset
  obtain ⟨news', U, R'⟩ := h4 _ (putN x es k) hes
  rw [er_ref ew]
  have hlen := hes.len
  have hl := hset.len
  exact set_dict F O.gd.K N (W.InstAt.of_news N h1 h2) rfl Fd.set Fd.over Fd.taker Fd.dict (h3.isSome x) rfl U (by omega) fun h' F' N' => ⟨z.trans (z2.trans ⟨rfl, rfl, rfl⟩), ρ, _, hn, m, news', F', N', r, R'⟩
end
end Mine
end

section
open PySem PySem.W PyProof.Rows PySem.Spec PySem.Calls
namespace Mine
section
variable {G : GP} {c : FC} {env : Env} {ρ : LE} {σ : AH} {n m : Nat} {Q : Value → AH → Prop} {N : LE → AH → Prop} {R : Value → AH → Prop}

/-! subscripts -/
noncomputable def JS2 (G : GP) (c : FC) (ρ : LE) (σ : AH) (value slice : Expr) (o i : Value) (Q : Value → AH → Prop) : Prop := ∀ u v, er u = o → er v = i → JE G c ρ σ (subscriptTail value slice u v) Q
theorem je_sub {value slice : Expr} {p : Pos} (h : JE G c ρ σ (eval value env) (fun o σ1 => JE G c ρ σ1 (eval slice env) (fun i σ2 => JS2 G c ρ σ2 value slice o i Q))) : JE G c ρ σ (eval (.Subscript value slice p) env) Q := .mk fun Φ s E S =>
  Subscript_ (wpAny_mono (h.run Φ s E S) (fun o s1 ⟨z, σ1, h1, S1⟩ => wpAny_mono (h1.run Φ s1 E S1) (fun i s2 ⟨z2, σ2, h2, S2⟩ => wpAny_mono ((h2 o i rfl rfl).run Φ s2 E S2) (fun v s3 ⟨z3, σ3, h3, S3⟩ => ⟨z.trans (z2.trans z3), σ3, h3, S3⟩) fun _ _ x => x) fun _ _ x => x) fun _ _ x => x)
theorem map_get {us : List Value} {vs : List Value} {k : Nat} {v : Value} (e : us.map er = vs) (h : vs[k]? = some v) : ∃ u, us[k]? = some u ∧ er u = v := by
  subst e
  rw [List.getElem?_map] at h
  cases q : us[k]? with
  | none => rw [q] at h; cases h
  | some u => rw [q] at h; exact ⟨u, rfl, Option.some.inj h⟩
theorem St.isList {Φ : Led} {a : Addr} {vs : List Value} {s : Shared} (S : St Φ c ρ σ s) (ha : σ a = some (.list vs)) : ∃ us : Array Value, s.heap.IsList a us ∧ us.toList.map er = vs := by
  obtain ⟨m, news, F, N, r, R⟩ := S
  obtain ⟨us, k, h1, h2⟩ := R.listAt ha
  exact ⟨us, ⟨_, N.get h1, rfl, k, rfl⟩, h2⟩
theorem St.isTup {Φ : Led} {a : Addr} {vs : List Value} {s : Shared} (S : St Φ c ρ σ s) (ha : σ a = some (.tup vs)) : ∃ us : Array Value, IsTup s.heap a us ∧ us.toList.map er = vs := by
  obtain ⟨m, news, F, N, r, R⟩ := S
  obtain ⟨us, k, h1, h2⟩ := R.tupAt ha
  exact ⟨us, ⟨_, N.get h1, rfl, k, rfl⟩, h2⟩
theorem js2_list {value slice : Expr} {a : Addr} {vs : List Value} {i : Int} {v : Value} (ha : σ a = some (.list vs)) (h0 : 0 ≤ i) (hf : i < 2 ^ 63) (hv : vs[i.toNat]? = some v) (h : Q v σ)
    (hs : ∀ o i, subscripted slice false o i = PySem.operate [o, i] (getItem o i) := by intro _ _; rfl) : JS2 G c ρ σ value slice (.ref a) (vi i) Q := fun u w eu ew => .mk fun Φ s E S => by
  obtain ⟨us, hl, e⟩ := S.isList ha
  obtain ⟨x, hx, ex⟩ := map_get e hv
  obtain ⟨t, rfl⟩ := er_int ew
  rw [er_ref eu]
  exact tail_any hl.typeIs slot_list_getitem.lookup (wpAny_getItem_list hl h0 hf (by rw [← Array.getElem?_toList]; exact hx) (fin_s (F := fun τ => Q (er x) τ) S (ex ▸ h))) (hs _ _)
theorem js2_back {value slice : Expr} {a : Addr} {vs : List Value} {i : Int} {v : Value} (ha : σ a = some (.list vs)) (h0 : i < 0) (h1 : -(vs.length : Int) ≤ i) (hf : -(2 ^ 63) ≤ i) (hv : vs[(i + vs.length).toNat]? = some v) (h : Q v σ)
    (hs : ∀ o i, subscripted slice false o i = PySem.operate [o, i] (getItem o i) := by intro _ _; rfl) : JS2 G c ρ σ value slice (.ref a) (vi i) Q := fun u w eu ew => .mk fun Φ s E S => by
  obtain ⟨us, hl, e⟩ := S.isList ha
  obtain ⟨x, hx, ex⟩ := map_get e hv
  obtain ⟨t, rfl⟩ := er_int ew
  have hz : us.size = vs.length := by rw [← e, List.length_map, Array.length_toList]
  rw [er_ref eu]
  exact tail_any hl.typeIs slot_list_getitem.lookup (wpAny_getItem_list_neg hl h0 (by rw [hz]; exact h1) hf (by rw [hz, ← Array.getElem?_toList]; exact hx) (fin_s (F := fun τ => Q (er x) τ) S (ex ▸ h))) (hs _ _)
theorem js2_tup {value slice : Expr} {a : Addr} {vs : List Value} {i : Int} {v : Value} (ha : σ a = some (.tup vs)) (h0 : 0 ≤ i) (hf : i < 2 ^ 63) (hv : vs[i.toNat]? = some v) (h : Q v σ)
    (hs : ∀ o i, subscripted slice false o i = PySem.operate [o, i] (getItem o i) := by intro _ _; rfl) : JS2 G c ρ σ value slice (.ref a) (vi i) Q := fun u w eu ew => .mk fun Φ s E S => by
  obtain ⟨us, hl, e⟩ := S.isTup ha
  obtain ⟨x, hx, ex⟩ := map_get e hv
  obtain ⟨t, rfl⟩ := er_int ew
  have hlt : i.toNat < us.size := by rw [← Array.length_toList]; exact (List.getElem?_eq_some_iff.mp hx).1
  rw [er_ref eu]
  exact tail_any hl.typeIs slot_tuple_getitem.lookup (PyProof.Rows.getItem_tuple hl (by omega) hf (seqIndex_of h0 (by omega)) (by rw [← Array.getElem?_toList]; exact hx) (fin_s (F := fun τ => Q (er x) τ) S (ex ▸ h))) (hs _ _)
/-- the law's own script -/
theorem js2_script {value slice : Expr} {i : Int} {k : Int} (O : c.Ok G n) (h0 : 0 ≤ i) (hf : i < 2 ^ 63) (hv : G.ns[i.toNat]? = some k) (h : Q (vi k) σ)
    (hs : ∀ o i, subscripted slice false o i = PySem.operate [o, i] (getItem o i) := by intro _ _; rfl) : JS2 G c ρ σ value slice (.ref G.sc) (vi i) Q := fun u w eu ew => .mk fun Φ s E S => by
  have S0 := S
  obtain ⟨m, news, F, N, r, R⟩ := S
  obtain ⟨us, ⟨o, ho, hr⟩, e⟩ := O.gd.scr
  have hl : s.heap.IsList G.sc us.toArray := ⟨o, F.keep _ _ ho, hr⟩
  obtain ⟨x, hx, ex⟩ := map_get (k := i.toNat) (v := vi k) e (by rw [List.getElem?_map, hv]; rfl)
  obtain ⟨t, rfl⟩ := er_int ew
  rw [er_ref eu]
  exact tail_any hl.typeIs slot_list_getitem.lookup (wpAny_getItem_list hl h0 hf (by simpa using hx) (fin_s (F := fun τ => Q (er x) τ) S0 (ex ▸ h))) (hs _ _)

/-! new objects -/
theorem St.fresh {Φ : Led} {s : Shared} (S : St Φ c ρ σ s) {a : Addr} (h : s.heap.objs.size ≤ a) : σ a = none := by
  obtain ⟨m, news, F, N, r, R⟩ := S
  exact R.none_of_fresh fun p hp => Nat.ne_of_lt (Nat.lt_of_lt_of_le (Heap.lt_size (N p hp).1) h)
theorem St.push {Φ : Led} {s : Shared} (S : St Φ c ρ σ s) (o : Obj) : St Φ c ρ σ { s with heap := s.heap.push o } := by
  obtain ⟨m, news, F, N, r, R⟩ := S
  exact ⟨m, news, F.push o, N.grown fun _ _ e => Heap.get?_push_of_some _ e, r, R⟩
theorem St.add {Φ : Led} {s : Shared} (S : St Φ c ρ σ s) {o : Obj} {ao : AO} (hs : shape ao = none) (h : Cel ao o) (hf : o.isFreed = false := by rfl) : St Φ c ρ (upd σ s.heap.objs.size ao) { s with heap := s.heap.push o } := by
  obtain ⟨m, news, F, N, r, R⟩ := S
  exact ⟨m, _, F.push o, N.push F o hf, r, R.push (fun p hp => Nat.ne_of_lt (Heap.lt_size (N p hp).1)) hs h⟩
theorem j_newTuple {us : List Value} {P : Value → AH → Prop} (hz : us.length ≤ 1000) (h : ∀ a, σ a = none → P (.ref a) (upd σ a (.tup (us.map er)))) : J G c ρ σ (newTuple us) P := .mk fun Φ s E S =>
  wpAny_newTuple ⟨⟨rfl, rfl, rfl⟩, _, h _ (S.fresh (Nat.le_refl _)), S.add rfl ⟨_, _, rfl, by simp⟩⟩ (by rw [sizeLine_eq]; omega)
theorem j_newList {us : List Value} {P : Value → AH → Prop} (hz : us.length ≤ 1000) (h : ∀ a, σ a = none → P (.ref a) (upd σ a (.list (us.map er)))) : J G c ρ σ (newList us) P := .mk fun Φ s E S =>
  wpAny_newList ⟨⟨rfl, rfl, rfl⟩, _, h _ (S.fresh (Nat.le_refl _)), S.add rfl ⟨_, _, rfl, by simp⟩⟩ (by rw [sizeLine_eq]; omega)
theorem je_tuple {es : List Expr} {k : Nat} {p : Pos} (h : JA G c env ρ σ p es (fun vs σ1 => vs.length ≤ 1000 ∧ ∀ a, σ1 a = none → Q (.ref a) (upd σ1 a (.tup vs)))) : JE G c ρ σ (eval (.Tuple es k p) env) Q := by
  refine J.eq (t' := (do standAt p; newTuple (← spliced (backTo p (starEach es env))))) rfl (J.bind (J.at (J.bind (J.mono h fun us σ1 h1 => ?_))))
  exact j_newTuple (by rw [← List.length_map (f := er)]; exact h1.1) fun a ha => h1.2 a ha
theorem je_list {es : List Expr} {p : Pos} (h : JA G c env ρ σ p es (fun vs σ1 => vs.length ≤ 1000 ∧ ∀ a, σ1 a = none → Q (.ref a) (upd σ1 a (.list vs)))) : JE G c ρ σ (eval (.List es p) env) Q := by
  refine J.eq (t' := (do standAt p; newList (← spliced (backTo p (starEach es env))))) rfl (J.bind (J.at (J.bind (J.mono h fun us σ1 h1 => ?_))))
  exact j_newList (by rw [← List.length_map (f := er)]; exact h1.1) fun a ha => h1.2 a ha
theorem jb_addl {a b : Addr} {vs ws : List Value} (ha : σ a = some (.list vs)) (hb : σ b = some (.list ws)) (hz : vs.length + ws.length ≤ 1000) (h : ∀ d, σ d = none → Q (.ref d) (upd σ d (.list (vs ++ ws)))) : JB G c ρ σ .Add (.ref a) (.ref b) Q := fun u v eu ev => .mk fun Φ s E S => by
  rw [er_ref eu, er_ref ev]
  obtain ⟨us, hl, e⟩ := S.isList ha
  obtain ⟨us', hl', e'⟩ := S.isList hb
  have z1 : us.size = vs.length := by rw [← e, List.length_map, Array.length_toList]
  have z2 : us'.size = ws.length := by rw [← e', List.length_map, Array.length_toList]
  have hfr := S.fresh (Nat.le_refl _)
  obtain ⟨m, news, F, N, r, R⟩ := S
  exact add_arrays F N hl hl' (fun h' F' N' => ⟨⟨rfl, rfl, rfl⟩, _, h _ hfr, m, _, F', N', r, R.push (fun p hp => Nat.ne_of_lt (Heap.lt_size (N p hp).1)) rfl ⟨_, _, rfl, by simp [e, e']⟩⟩) (by rw [sizeLine_eq]; omega)

/-! len, max, int -/
theorem j_len {a : Addr} {vs : List Value} (ha : σ a = some (.list vs)) (hz : vs.length ≤ 1000) (h : Q (vi vs.length) σ) : JE G c ρ σ (call (.builtin "len") [.ref a]) Q := .mk fun Φ s E S => by
  obtain ⟨us, hl, e⟩ := S.isList ha
  have z1 : us.size = vs.length := by rw [← e, List.length_map, Array.length_toList]
  exact PyProof.Rows.len_list hl (by rw [z1]; omega) (fin_t (F := fun τ => Q (vi us.size) τ) S (by rw [z1]; exact h))
theorem j_len_script (O : c.Ok G n) (hz : G.ns.length ≤ 1000) (h : Q (vi G.ns.length) σ) : JE G c ρ σ (call (.builtin "len") [.ref G.sc]) Q := .mk fun Φ s E S => by
  have S0 := S
  obtain ⟨m, news, F, N, r, R⟩ := S
  obtain ⟨us, ⟨o, ho, hr⟩, e⟩ := O.gd.scr
  have hl : s.heap.IsList G.sc us.toArray := ⟨o, F.keep _ _ ho, hr⟩
  have z1 : us.toArray.size = G.ns.length := by rw [List.size_toArray, ← List.length_map (f := er), e, List.length_map]
  exact PyProof.Rows.len_list hl (by rw [z1]; omega) (fin_t (F := fun τ => Q (vi us.toArray.size) τ) S0 (by rw [z1]; exact h))
theorem j_max {i j : Int} {t u : Tok} (h : Q (vi (if j > i then j else i)) σ) : JE G c ρ σ (call (.builtin "max") [.int i t, .int j u]) Q := .mk fun Φ s E S => by
  obtain ⟨m, news, F, N, r, R⟩ := S
  exact max_two_N rfl F N fun h' tk F' N' => ⟨⟨rfl, rfl, rfl⟩, σ, h, m, news, F', N', r, R⟩
theorem j_toint {i : Int} {t : Tok} (h : Q (vi i) σ) : JE G c ρ σ (call (.type "int") [.int i t]) Q := .mk fun Φ s E S => call_int_int (fin_s (F := fun τ => Q (vi i) τ) S h)
theorem je_len {x : PySem.Str} {xp p : Pos} {e : Expr} (O : c.Ok G m) (g : GlAt c x) (T : TopB G x (.builtin "len"))
    (h : JE G c ρ σ (eval e c.env) (fun v σ1 => ∃ a vs, v = .ref a ∧ σ1 a = some (.list vs) ∧ vs.length ≤ 1000 ∧ Q (vi vs.length) σ1)) (he : starEach [e] c.env = (false, eval e c.env) :: starEach [] c.env := by rfl) : JE G c ρ σ (eval (.Call (.Name x xp) [e] [] p) c.env) Q := by
  refine je_callb O g T (.mk fun Φ s E S => ?_) he rfl
  refine args_cons (wpAny_mono (h.run Φ s E S) (fun w s1 ⟨z, σ2, h3, S1⟩ => args_nil ⟨z, σ2, ?_, S1⟩) fun _ _ x => x) he
  obtain ⟨a, vs, ew, ha, hz, hq⟩ := h3
  rw [er_ref ew]
  exact j_len ha hz hq
end
end Mine
end

section
open PySem PySem.W PyProof.Rows PySem.Spec PySem.Calls
namespace Mine
theorem Rep.cut {Φ news : Led} {σ : AH} {a : Addr} {o : Obj} (R : Rep ((a, o) :: Φ) news σ) (hne : ∀ p ∈ Φ, p.1 ≠ a) : Rep Φ (news.filter fun p => decide (p.1 ≠ a)) σ := by
  obtain ⟨dx, R⟩ := R
  have h0 := R.off _ (.head _)
  have h1 := R.offd _ (.head _)
  have mem : ∀ p ∈ news, p.1 ≠ a → p ∈ news.filter fun p => decide (p.1 ≠ a) := fun p hp h => List.mem_filter.mpr ⟨hp, by simpa using h⟩
  refine ⟨dx, ⟨?_, fun b o2 e => ?_, R.free, R.inj, fun p hp => mem _ (R.fr _ (.tail _ hp)) (hne _ hp), fun p hp => R.off _ (.tail _ hp), fun p hp => R.offd _ (.tail _ hp)⟩⟩
  · exact R.nodup.sublist (List.Sublist.map _ List.filter_sublist)
  · have z := R.holds _ _ e
    have hb : b ≠ a := fun q => by rw [q] at e; rw [show σ a = none from h0] at e; cases e
    have fr := h1 _ _ e
    unfold HoldsAt at z ⊢
    split at z
    · rename_i es; obtain ⟨o3, x1, x2⟩ := z; exact ⟨o3, mem _ x1 hb, x2⟩
    · rename_i s es; obtain ⟨es', n, x1, x2, x3⟩ := z
      exact ⟨es', n, mem _ x1 hb, mem _ x2 (fr (by rw [es]; rfl)), x3⟩

section
variable {G : GP} {c : FC} {env : Env} {ρ : LE} {σ : AH} {n m : Nat} {Q : Value → AH → Prop} {N : LE → AH → Prop} {R : Value → AH → Prop} {Φ : Led} {s : Shared} {a : Addr} {o o' : Obj} {h' : Heap}
theorem fr_but' {h₀ h h' : Heap} {L I : Addr} {m : PySem.Str → Option Value} (F : Fr h₀ L h m) (hk : ∀ b o, b ≠ I → h.get? b = some o → h'.get? b = some o) (hL : I ≠ L) (hI : h₀.get? I = none) : Fr h₀ L h' m :=
  ⟨F.ns.at' fun o e => hk L o (Ne.symm hL) e, fun b o e => hk b o (fun hm => by rw [hm, hI] at e; cases e) (F.keep b o e), F.above⟩
theorem St.cutF (S : St ((a, o) :: Φ) c ρ σ s) (hne : ∀ p ∈ Φ, p.1 ≠ a) (hk : ∀ b o, b ≠ a → s.heap.get? b = some o → h'.get? b = some o) {tk : Nat} : St Φ c ρ σ { s with heap := h', toks := tk } := by
  obtain ⟨m, news, F, N, r, R⟩ := S
  have hm := R.choose_spec.fr _ (.head _)
  have z := N _ hm
  refine ⟨m, _, fr_but' F hk z.2.1 z.2.2, fun p hp => ?_, r, R.cut hne⟩
  obtain ⟨h1, h2⟩ := List.mem_filter.mp hp
  exact ⟨hk _ _ (by simpa using h2) (N p h1).1, (N p h1).2⟩
theorem St.turnF (S : St ((a, o) :: Φ) c ρ σ s) (hne : ∀ p ∈ Φ, p.1 ≠ a) (hk : ∀ b o, b ≠ a → s.heap.get? b = some o → h'.get? b = some o) (ho : h'.get? a = some o') {tk : Nat} : St ((a, o') :: Φ) c ρ σ { s with heap := h', toks := tk } := by
  obtain ⟨m, news, F, N, r, R⟩ := S
  have hm := R.choose_spec.fr _ (.head _)
  have z := N _ hm
  obtain ⟨news', U, R'⟩ := R.turnF hne o'
  refine ⟨m, news', fr_but' F hk z.2.1 z.2.2, ?_, r, R'⟩
  obtain ⟨pre, post, rfl, rfl, x, y⟩ := U.split
  intro p hp
  rcases List.mem_append.mp hp with hp | hp
  · have z := N p (List.mem_append.mpr (.inl hp)); exact ⟨hk _ _ (x p hp) z.1, z.2⟩
  · rcases List.mem_cons.mp hp with rfl | hp
    · exact ⟨ho, z.2⟩
    · have z := N p (List.mem_append.mpr (.inr (.tail _ hp))); exact ⟨hk _ _ (y p hp) z.1, z.2⟩
theorem St.getF (S : St ((a, o) :: Φ) c ρ σ s) : s.heap.get? a = some o := by
  obtain ⟨m, news, F, N, r, R⟩ := S
  exact (N _ (R.choose_spec.fr _ (.head _))).1
theorem St.holdF (S : St Φ c ρ σ s) (o : Obj) (hf : o.isFreed = false := by rfl) : St ((s.heap.objs.size, o) :: Φ) c ρ σ { s with heap := s.heap.push o } ∧ ∀ p ∈ Φ, p.1 ≠ s.heap.objs.size := by
  obtain ⟨m, news, F, N, r, R⟩ := S
  have ne : ∀ p ∈ news, p.1 ≠ s.heap.objs.size := fun p hp => Nat.ne_of_lt (Heap.lt_size (N p hp).1)
  exact ⟨⟨m, _, F.push o, N.push F o hf, r, R.hold ne⟩, fun p hp => ne p (R.choose_spec.fr _ hp)⟩
theorem St.toks (S : St Φ c ρ σ s) {tk : Nat} : St Φ c ρ σ { s with toks := tk } := S.same rfl

/-! for -/
abbrev lIt (l : Addr) (i : Nat) : Obj := { cls := .type "list_iterator", data := .fields #[.ref l, .int i 0] }
theorem pyNext_list_item' {prog : Program} {w : World} {A : Around} {E : Value → Shared → Prop} {it l : Addr} {i : Nat} {items : Array Value} {x : Value} {Q : Option Value → Shared → Prop} (hit : s.heap.get? it = some (lIt l i))
    (hl : s.heap.IsList l items) (hx : items[i]? = some x) (hQ : ∀ h', h'.get? it = some (lIt l (i + 1)) → Heap.SameBut it s.heap h' → Q (some x) { s with heap := h' }) :
    wpAny (model prog w) A (pyNext (.ref it)) Q E s := by
  have hit' : s.heap.IsListIter it l i := ⟨_, hit, rfl, rfl⟩
  obtain ⟨ol, hol, _, nl, hdl⟩ := hl
  unfold pyNext
  refine wpAny_bind (wpAny_attempt (wpAny_callSpecial?_slot (name := Str.ofString "__next__") hit'.typeIs slot_listiter_next
    (wpAny_call_entry slot_listiter_next hit'.typeIs entry_listiter_next ?_ (args_listiter_next _))))
  show wpAny _ _ (field (.ref it) 0 >>= _) _ _ s
  refine wpAny_bind (wpAny_field hit rfl (x := .ref l) rfl ?_)
  show wpAny _ _ (if (Value.ref l == Value.none) = true then _ else _) _ _ s
  rw [if_neg (show ¬ ((Value.ref l == Value.none) = true) from Bool.false_ne_true)]
  show wpAny _ _ (field (.ref it) 1 >>= _) _ _ s
  refine wpAny_bind (wpAny_field hit rfl (x := .int i 0) rfl ?_)
  show wpAny _ _ (seqItems? (.ref l) >>= _) _ _ s
  refine wpAny_bind (wpAny_seqItems hol hdl ?_)
  simp only [Int.toNat_natCast, hx]
  refine wpAny_bind (wpAny_setField hit rfl (by simp) (wpAny_pure ⟨x, rfl, wpAny_pure (hQ _ ?_ (Heap.SameBut.update ..))⟩))
  exact Heap.get?_update_self _ hit rfl
abbrev rIt (x : Int) (left : Int) : Obj := { cls := .type "range_iterator", dict := none, data := .fields #[rawInt x, rawInt left, rawInt 1], slots := #[] }

/-- one assignment of a loop's target -/
noncomputable def JAs (G : GP) (c : FC) (env : Env) (ρ : LE) (σ : AH) (target : Expr) (v : Value) (P : LE → AH → Prop) : Prop :=
  ∀ Φ s E u, er u = v → St Φ c ρ σ s → wpAny (MM G.w) c.A (assign target env u) (fun _ s' => Sm s s' ∧ ∃ ρ' σ', P ρ' σ' ∧ St Φ c ρ' σ' s') E s
theorem jas_name {x : PySem.Str} {p : Pos} {i : Nat} {v : Value} {P : LE → AH → Prop} (O : c.Ok G n) (l : LocAt c i x) (h : P (ρ.set i (some v)) σ) : JAs G c c.env ρ σ (.Name x p) v P := fun Φ s E u eu S => by
  subst eu
  exact wpAny_assign_Name (j_store O l S fun s' z S' => ⟨z, _, _, h, S'⟩)
theorem for_core {target : Expr} {body : List Stmt} {it : Addr} {Ob : Nat → Obj} {cnt : Nat} {item : Nat → Value} {I : Nat → LE → AH → Prop} {E' : Value → Shared → Prop}
    (next : ∀ k ρ σ s E (Q : Option Value → Shared → Prop), k < cnt → I k ρ σ → St ((it, Ob k) :: Φ) c ρ σ s → (∀ s' v, er v = item k → Sm s s' → St ((it, Ob (k + 1)) :: Φ) c ρ σ s' → Q (some v) s') → wpAny (MM G.w) c.A (pyNext (.ref it)) Q E s)
    (stop : ∀ ρ σ s E (Q : Option Value → Shared → Prop), I cnt ρ σ → St ((it, Ob cnt) :: Φ) c ρ σ s → (∀ s', Sm s s' → St Φ c ρ σ s' → Q none s') → wpAny (MM G.w) c.A (pyNext (.ref it)) Q E s)
    (go : ∀ (k : Nat) v s (Q : Unit → Shared → Prop) E, k ≤ cnt → s.heap.get? it = some (Ob k) → Q () s → wpAny (MM G.w) c.A (letOwnedTupleGo target (.ref it) v) Q E s)
    (turn : ∀ k ρ σ, k < cnt → I k ρ σ → JAs G c c.env ρ σ target (item k) (fun ρ1 σ1 => JX G c ρ1 σ1 (execs body c.env) (I (k + 1)) R))
    (h0 : I 0 ρ σ) (S : St ((it, Ob 0) :: Φ) c ρ σ s) (hne : ∀ p ∈ Φ, p.1 ≠ it) :
    codeAny (MM G.w) c.A (.forLoop target (.ref it) body [] c.env) (fun r s' => match r with | .ok f => FlowP Φ c (I cnt) R s f s' | .error e => E' e s') s := by
  refine codeAny_forLoop_any (fun k s' => ∃ i ρ' σ', k = cnt + 1 - i ∧ i ≤ cnt ∧ Sm s s' ∧ I i ρ' σ' ∧ St ((it, Ob i) :: Φ) c ρ' σ' s') ?_ (cnt + 1) ⟨0, ρ, σ, by omega, Nat.zero_le _, .rfl' s, h0, S⟩
  rintro k s' ⟨i, ρ', σ', rfl, hi, z, hI, S'⟩
  by_cases hlt : i < cnt
  · refine next i ρ' σ' s' _ _ hlt hI S' fun s2 v ev z2 S2 => ?_
    refine go (i + 1) v s2 _ _ hlt S2.getF ?_
    refine wpAny_mono (turn i ρ' σ' hlt hI _ s2 _ v ev S2) (fun _ s3 ⟨z3, ρ3, σ3, h3, S3⟩ => ?_) fun _ _ x => x
    refine wpAny_mono (h3.run _ s3 _ S3) (fun f s4 ⟨z4, hf⟩ => ?_) fun _ _ x => x
    cases f with
    | next => obtain ⟨ρ4, σ4, h4, S4⟩ := hf; exact ⟨cnt + 1 - (i + 1), by omega, i + 1, ρ4, σ4, rfl, hlt, z.trans (z2.trans (z3.trans z4)), h4, S4⟩
    | ret v => obtain ⟨σ4, h4, S4⟩ := hf; exact ⟨z.trans (z2.trans (z3.trans z4)), σ4, h4, S4.cutF hne (fun _ _ _ e => e)⟩
    | brk => exact hf.elim
    | cont => exact hf.elim
  · obtain rfl : i = cnt := by omega
    refine stop ρ' σ' s' _ _ hI S' fun s2 z2 S2 => wpAny_execs_nil ⟨z.trans z2, ρ', σ', hI, S2⟩

theorem js_for_list {target iter : Expr} {body : List Stmt} {p : Pos}
    (h : JE G c ρ σ (eval iter c.env) (fun v σ1 => ∃ a vs, ∃ I : Nat → LE → AH → Prop, v = .ref a ∧ σ1 a = some (.list vs) ∧ I 0 ρ σ1 ∧ (∀ k ρ σ, I k ρ σ → σ a = some (.list vs)) ∧
      (∀ k ρ σ w, I k ρ σ → vs[k]? = some w → JAs G c c.env ρ σ target w (fun ρ1 σ1 => JX G c ρ1 σ1 (execs body c.env) (I (k + 1)) R)) ∧ ∀ ρ σ, I vs.length ρ σ → N ρ σ))
    (go : ∀ (it l : Addr) (k : Nat) v s (Q : Unit → Shared → Prop) E, s.heap.get? it = some (lIt l k) → Q () s → wpAny (MM G.w) c.A (letOwnedTupleGo target (.ref it) v) Q E s)
    (hs : ∀ x, foldedSetIterable iter c.env x = pure x := by intro _; rfl) :
    JX G c ρ σ (exec (.For target iter body [] p) c.env) N R := .mk fun Φ s E S => by
  refine wpAny_For (wpAny_mono (h.run Φ s E S) (fun v s1 ⟨z, σ1, h1, S1⟩ => ?_) fun _ _ x => x) hs
  obtain ⟨a, vs, I, ev, ha, h0, hl, turn, fin⟩ := h1
  rw [er_ref ev]
  obtain ⟨us, hus, eus⟩ := S1.isList ha
  have hsz : us.size = vs.length := by rw [← eus, List.length_map, Array.length_toList]
  refine wpAny_pyIter_list hus ?_
  obtain ⟨S2, hne⟩ := S1.holdF (lIt a 0)
  refine codeAny_mono (for_core (Φ := Φ) (it := s1.heap.objs.size) (Ob := fun k => lIt a k) (cnt := vs.length) (item := fun k => (vs[k]?).getD .none) (I := I) (R := R) (E' := cameBackBy (MM G.w) c.A c.env E) ?_ ?_ ?_ ?_ h0 S2 hne) ?_
  · intro k ρ2 σ2 s2 E2 Q2 hk hI S3 hQ
    obtain ⟨us2, hus2, eus2⟩ := S3.isList (hl _ _ _ hI)
    have hvk : vs[k]? = some vs[k] := List.getElem?_eq_getElem hk
    obtain ⟨x, hx, ex⟩ := map_get eus2 hvk
    refine pyNext_list_item' S3.getF hus2 (by rw [← Array.getElem?_toList]; exact hx) fun h' ho hs' => ?_
    exact hQ _ x (by rw [ex, hvk]; rfl) ⟨rfl, rfl, rfl⟩ (S3.turnF hne (fun b o hb e => (hs'.2 b hb).trans e) ho)
  · intro ρ2 σ2 s2 E2 Q2 hI S3 hQ
    obtain ⟨us2, hus2, eus2⟩ := S3.isList (hl _ _ _ hI)
    have hsz2 : us2.size = vs.length := by rw [← eus2, List.length_map, Array.length_toList]
    refine wpAny_pyNext_list_end rfl ⟨_, S3.getF, rfl, rfl⟩ hus2 (by rw [← hsz2]; simp) fun h' he => ?_
    exact hQ _ ⟨rfl, rfl, rfl⟩ (S3.cutF hne fun b o hb e => he b o hb e)
  · exact fun k v s Q E _ => go _ a k v s Q E
  · intro k ρ2 σ2 hk hI
    have hvk : vs[k]? = some vs[k] := List.getElem?_eq_getElem hk
    show JAs G c c.env ρ2 σ2 target ((vs[k]?).getD .none) _
    rw [hvk]
    exact turn k ρ2 σ2 _ hI hvk
  · intro r s' hr
    cases r with
    | error e => exact hr
    | ok f =>
      obtain ⟨z', hf⟩ := hr
      refine ⟨z.trans ⟨z'.1, z'.2.1, z'.2.2⟩, ?_⟩
      cases f with
      | next => obtain ⟨ρ4, σ4, h4, S4⟩ := hf; exact ⟨ρ4, σ4, fin _ _ h4, S4⟩
      | ret v => exact hf
      | brk => exact hf
      | cont => exact hf

theorem js_for_range {target e : Expr} {body : List Stmt} {x : PySem.Str} {xp p cp : Pos} (O : c.Ok G m) (g : GlAt c x) (T : TopB G x (.type "range"))
    (h : JE G c ρ σ (eval e c.env) (fun v σ1 => ∃ N0 : Int, ∃ I : Nat → LE → AH → Prop, v = vi N0 ∧ -(2 ^ 62) ≤ N0 ∧ N0 < 2 ^ 62 ∧ I 0 ρ σ1 ∧
      (∀ (k : Nat) ρ σ, I k ρ σ → (k : Int) < N0 → JAs G c c.env ρ σ target (vi k) (fun ρ1 σ1 => JX G c ρ1 σ1 (execs body c.env) (I (k + 1)) R)) ∧ ∀ ρ σ, I N0.toNat ρ σ → N ρ σ))
    (go : ∀ (it : Addr) v s (Q : Unit → Shared → Prop) E, Q () s → wpAny (MM G.w) c.A (letOwnedTupleGo target (.ref it) v) Q E s)
    (hse : backTo cp (starEach [e] c.env) = [(false, eval e c.env)] := by rfl)
    (hs : ∀ y, foldedSetIterable (.Call (.Name x xp) [e] [] cp) c.env y = pure y := by intro _; rfl) :
    JX G c ρ σ (exec (.For target (.Call (.Name x xp) [e] [] cp) body [] p) c.env) N R := .mk fun Φ s E S => by
  refine wpAny_For ?_ hs
  refine wpAny_Call_NameR (wpAny_mono ((j_bname (P := fun v τ => v = .type "range" ∧ τ = σ) O g T.at_ T.boot T.ne ⟨rfl, rfl⟩).run Φ s E S) (fun v s1 ⟨z, σ1, h1, S1⟩ => ?_) fun _ _ x => x)
  obtain ⟨rfl, rfl⟩ := h1
  rw [hse]
  refine PySem.callWith_type rfl (Calls.evalArgs_plain (Calls.spliced_cons (wpAny_mono (h.run Φ s1 E S1) (fun v s2 ⟨z2, σ2, h2, S2⟩ => Calls.spliced_nil ?_) fun _ _ x => x)))
  obtain ⟨N0, I, ev, hlo, hhi, h0, turn, fin⟩ := h2
  obtain ⟨t, rfl⟩ := er_int ev
  refine call_range_1 ?_
  refine wpAny_pyIter_range (IsRange.new ..) (small_one (by decide) (by decide) hlo hhi) ?_
  have hrs : Builtin.Range.rangeSize 0 N0 1 = (N0.toNat : Int) := by rw [rangeSize_one]; split <;> omega
  have S3 := (S2.push { cls := .type "range", data := .fields #[.int 0 s2.toks, .int N0 t, .int 1 (s2.toks + 1)] }).toks (tk := s2.toks + 1 + 1)
  obtain ⟨S4, hne⟩ := S3.holdF (rIt 0 (Builtin.Range.rangeSize 0 N0 1))
  refine codeAny_mono (for_core (Φ := Φ) (Ob := fun k => rIt k ((N0.toNat : Int) - k)) (cnt := N0.toNat) (item := fun k => vi k) (I := I) (R := R) (E' := cameBackBy (MM G.w) c.A c.env E) ?_ ?_ ?_ ?_ h0 (by
    have eO : rIt ((0 : Nat) : Int) ((N0.toNat : Int) - ((0 : Nat) : Int)) = rIt 0 (Builtin.Range.rangeSize 0 N0 1) := by rw [hrs]; simp
    show St ((_, rIt ((0 : Nat) : Int) ((N0.toNat : Int) - ((0 : Nat) : Int))) :: Φ) c ρ σ2 _
    rw [eO]; exact S4) hne) ?_
  · intro k ρ2 σ2 s2 E2 Q2 hk hI S3 hQ
    refine wpAny_pyNext_range_item S3.getF (by omega) fun h' ho hs' => ?_
    refine hQ _ _ rfl ⟨rfl, rfl, rfl⟩ (S3.turnF hne (fun b o hb e => (hs'.2 b hb).trans e) ?_)
    rw [ho]
    show some _ = some _
    congr 2
    have : (N0.toNat : Int) - (k : Int) - 1 = (N0.toNat : Int) - ((k + 1 : Nat) : Int) := by omega
    rw [this]; rfl
  · intro ρ2 σ2 s2 E2 Q2 hI S3 hQ
    refine wpAny_pyNext_range_end rfl S3.getF (by omega) fun h' he => ?_
    exact hQ _ ⟨rfl, rfl, rfl⟩ (S3.cutF hne fun b o hb e => he b o hb e)
  · exact fun k v s Q E _ _ => go _ v s Q E
  · intro k ρ2 σ2 hk hI
    exact turn k ρ2 σ2 hI (by omega)
  · intro r s' hr
    cases r with
    | error e => exact hr
    | ok f =>
      obtain ⟨z', hf⟩ := hr
      refine ⟨z.trans (z2.trans ?_), ?_⟩
      · exact ⟨z'.1, z'.2.1, z'.2.2⟩
      · cases f with
        | next => obtain ⟨ρ4, σ4, h4, S4⟩ := hf; exact ⟨ρ4, σ4, fin _ _ h4, S4⟩
        | ret v => exact hf
        | brk => exact hf
        | cont => exact hf

/-! while -/
theorem js_while {test : Expr} {body : List Stmt} {p : Pos} {I : Nat → LE → AH → Prop} {k : Nat} (h0 : I k ρ σ)
    (turn : ∀ k ρ σ, I k ρ σ → JT G c c.env ρ σ test (fun b σ1 => (b = true → JX G c ρ σ1 (execs body c.env) (fun ρ2 σ2 => ∃ k', k' < k ∧ I k' ρ2 σ2) R) ∧ (b = false → N ρ σ1))) :
    JX G c ρ σ (exec (.While test body [] p) c.env) N R := .mk fun Φ s E S => by
  refine wpAny_While (codeAny_whileLoop (fun k s' => ∃ ρ' σ', Sm s s' ∧ I k ρ' σ' ∧ St Φ c ρ' σ' s') ?_ k ⟨ρ, σ, .rfl' s, h0, S⟩)
  rintro k s' ⟨ρ', σ', z, hI, S'⟩
  refine wpAny_mono ((turn k ρ' σ' hI).run _ _ _ S') (fun b s2 ⟨z2, σ2, h2, S2⟩ => ?_) fun _ _ x => x
  cases b with
  | false => exact wpAny_execs_nil ⟨z.trans z2, ρ', σ2, h2.2 rfl, S2⟩
  | true =>
    refine wpAny_mono ((h2.1 rfl).run _ _ _ S2) (fun f s4 ⟨z4, hf⟩ => ?_) fun _ _ x => x
    cases f with
    | next => obtain ⟨ρ4, σ4, ⟨k', hk, h4⟩, S4⟩ := hf; exact ⟨k', hk, ρ4, σ4, z.trans (z2.trans z4), h4, S4⟩
    | ret v => obtain ⟨σ4, h4, S4⟩ := hf; exact ⟨z.trans (z2.trans z4), σ4, h4, S4⟩
    | brk => exact hf.elim
    | cont => exact hf.elim
end
end Mine
end

section
open PySem PySem.W PyProof.Rows PySem.Spec PySem.Calls
namespace Mine
section
variable {G : GP} {c : FC} {env : Env} {ρ : LE} {σ : AH} {n m : Nat} {Q : Value → AH → Prop} {N : LE → AH → Prop} {R : Value → AH → Prop} {Φ : Led} {s : Shared}

/-! unpacking -/
theorem St.ext {h' : Heap} (S : St Φ c ρ σ s) (hk : Heap.ExtBut s.heap.objs.size s.heap h') {tk : Nat} : St Φ c ρ σ { s with heap := h', toks := tk } := by
  obtain ⟨m, news, F, N, r, R⟩ := S
  have lt : ∀ b o, s.heap.get? b = some o → b ≠ s.heap.objs.size := fun b o e => Nat.ne_of_lt (Heap.lt_size e)
  exact ⟨m, news, F.extBut hk (Nat.le_refl _), fun p hp => ⟨hk _ _ (lt _ _ (N p hp).1) (N p hp).1, (N p hp).2⟩, r, R⟩
theorem jas_tup2 {e1 e2 : Expr} {k : Nat} {pos : Pos} {a : Addr} {v1 v2 : Value} {P : LE → AH → Prop} (ha : σ a = some (.tup [v1, v2]))
    (h : JAs G c env ρ σ e1 v1 (fun ρ1 σ1 => JAs G c env ρ1 σ1 e2 v2 P)) (he : assignEach [e1, e2] env = [(false, assign e1 env), (false, assign e2 env)] := by rfl) : JAs G c env ρ σ (.Tuple [e1, e2] k pos) (.ref a) P := fun Φ s E u eu S => by
  rw [er_ref eu]
  obtain ⟨us, ht, e⟩ := S.isTup ha
  have hl : us.toList.length = 2 := by rw [← List.length_map (f := er), e]; rfl
  obtain ⟨x, y, hxy⟩ : ∃ x y, us.toList = [x, y] := by
    rcases h1 : us.toList with _ | ⟨x, _ | ⟨y, _ | ⟨z, r⟩⟩⟩ <;> rw [h1] at hl <;> simp at hl
    exact ⟨x, y, rfl⟩
  rw [hxy] at e
  simp only [List.map_cons, List.map_nil, List.cons.injEq, and_true] at e
  refine assign_Tuple_tuple rfl ht ?_ (by rw [he]; rfl) fun h' hx => ?_
  · rw [he, ← Array.length_toList, hxy]; rfl
  · rw [he, hxy]
    refine assignInOrder_cons (wpAny_mono (h Φ _ E x e.1 (S.ext hx (tk := s.toks))) (fun _ s1 ⟨z1, ρ1, σ1, h1, S1⟩ => ?_) fun _ _ x => x)
    refine assignInOrder_cons (wpAny_mono (h1 Φ _ E y e.2 S1) (fun _ s2 ⟨z2, ρ2, σ2, h2, S2⟩ => assignInOrder_nil ?_) fun _ _ x => x)
    exact ⟨⟨z2.1.trans z1.1, z2.2.1.trans z1.2.1, z2.2.2.trans z1.2.2⟩, ρ2, σ2, h2, S2⟩
theorem js_assign_tup {elts : List Expr} {k : Nat} {tpos : Pos} {value : Expr} {pos : Pos} (h : JE G c ρ σ (eval value c.env) (fun v σ1 => JAs G c c.env ρ σ1 (.Tuple elts k tpos) v N))
    (hs : swapsWithSole [.Tuple elts k tpos] value pos.line c.env = pure false := by rfl)
    (hw : swappedStores [.Tuple elts k tpos] value c.env = pure none := by rfl) : JX G c ρ σ (exec (.Assign [.Tuple elts k tpos] value pos) c.env) N R := .mk fun Φ s E S =>
  Assign_Tuple (wpAny_mono (h.run Φ s E S) (fun v s1 ⟨z, σ1, h1, S1⟩ => wpAny_mono (h1 Φ s1 E v rfl S1) (fun _ s2 ⟨z2, ρ2, σ2, h2, S2⟩ => ⟨z.trans z2, ρ2, σ2, h2, S2⟩) fun _ _ x => x) fun _ _ x => x) hs hw
theorem js_assign_swap {elts : List Expr} {k : Nat} {tpos : Pos} {value : Expr} {pos : Pos} {x y : PySem.Str} {i j : Nat} (O : c.Ok G n) (lx : LocAt c i x) (ly : LocAt c j y)
    (h : JE G c ρ σ (eval value c.env) (fun v σ1 => ∃ a v1 v2, v = .ref a ∧ σ1 a = some (.tup [v1, v2]) ∧ N ((ρ.set j (some v2)).set i (some v1)) σ1))
    (hw : swappedStores [.Tuple elts k tpos] value c.env = pure (some [x, y]))
    (hs : swapsWithSole [.Tuple elts k tpos] value pos.line c.env = pure false := by rfl) : JX G c ρ σ (exec (.Assign [.Tuple elts k tpos] value pos) c.env) N R := .mk fun Φ s E S => by
  refine Assign_Tuple_swapped (names := [x, y]) (wpAny_mono (h.run Φ s E S) (fun v s1 ⟨z, σ1, h1, S1⟩ => ?_) fun _ _ x => x) hs hw
  obtain ⟨a, v1, v2, ev, ha, hN⟩ := h1
  rw [er_ref ev]
  obtain ⟨us, ht, e⟩ := S1.isTup ha
  have hl : us.toList.length = 2 := by rw [← List.length_map (f := er), e]; rfl
  obtain ⟨p, q, hpq⟩ : ∃ x y, us.toList = [x, y] := by
    rcases h1 : us.toList with _ | ⟨x, _ | ⟨y, _ | ⟨z, r⟩⟩⟩ <;> rw [h1] at hl <;> simp at hl
    exact ⟨x, y, rfl⟩
  rw [hpq] at e
  simp only [List.map_cons, List.map_nil, List.cons.injEq, and_true] at e
  have hsz : us.size = 2 := by rw [← Array.length_toList]; exact hl
  have key : wpAny (MM G.w) c.A (unpackItems (.ref a) us.size none) (fun items s₂ =>
      wpAny (MM G.w) c.A (assignInOrder ([x, y].reverse.map fun n => bindName c.env n) items.reverse) (fun _ s' => FlowP Φ c N R s .next s') E s₂) E s1 := by
    refine unpackItems_tuple rfl ht fun h' hx => ?_
    have S2 := S1.ext hx (tk := s1.toks)
    rw [hpq]
    refine assignInOrder_cons (PyProof.Rows.bindName_ (j_store O ly S2 fun s3 z3 S3 => ?_))
    refine assignInOrder_cons (PyProof.Rows.bindName_ (j_store O lx S3 fun s4 z4 S4 => assignInOrder_nil ?_))
    rw [e.1, e.2] at S4
    refine ⟨z.trans ⟨z4.1.trans z3.1, z4.2.1.trans z3.2.1, z4.2.2.trans z3.2.2⟩, _, _, hN, S4⟩
  rw [hsz] at key
  exact key

/-! a list's item -/
theorem js_setitem {o i e : Expr} {p' p : Pos} (h : JE G c ρ σ (eval e c.env) (fun v σ1 => JE G c ρ σ1 (eval o c.env) (fun w σ2 => JE G c ρ σ2 (eval i c.env) (fun j σ3 => ∃ a vs, ∃ k : Nat, w = .ref a ∧ σ3 a = some (.list vs) ∧ j = vi k ∧ k < vs.length ∧ vs.length ≤ 1000 ∧ N ρ (upd σ3 a (.list (vs.set k v)))))))
    (hs : swapsWith e (some (.Subscript o i p')) p.line c.env = pure false := by rfl) : JX G c ρ σ (exec (.Assign [.Subscript o i p'] e p) c.env) N R := .mk fun Φ s E S => by
  refine wpAny_Assign_Subscript (wpAny_mono (h.run Φ s E S) (fun v s1 ⟨z, σ1, h1, S1⟩ => wpAny_mono (h1.run Φ s1 E S1) (fun w s2 ⟨z2, σ2, h2, S2⟩ => wpAny_mono (h2.run Φ s2 E S2) (fun j s3 ⟨z3, σ3, h3, S3⟩ => ?_) fun _ _ x => x) fun _ _ x => x) fun _ _ x => x) hs
  obtain ⟨a, vs, k, ew, ha, ej, hk, hz, hN⟩ := h3
  rw [er_ref ew]
  obtain ⟨t, rfl⟩ := er_int ej
  obtain ⟨m, news, F, N', r, R⟩ := S3
  obtain ⟨o1, h4, ⟨us, n', rfl, e⟩, h5⟩ := R.turn (ao' := .list (vs.set k (er v))) ha rfl rfl
  have z1 := N' _ h4
  have hsz : us.size = vs.length := by rw [← e, List.length_map, Array.length_toList]
  obtain ⟨news', U, R'⟩ := h5 (listOf (us.setIfInBounds k v) n') ⟨_, _, rfl, by rw [Array.toList_setIfInBounds, List.map_set, e]⟩
  obtain ⟨pre, post, rfl, rfl, x, y⟩ := U.split
  refine ki_setAt z1.1 (by omega) (by omega) (by omega) ?_
  refine ⟨z.trans (z2.trans z3), ρ, _, hN, m, _, F.change (Heap.SameBut.update ..) z1.2.1 z1.2.2, ki_turn (fun a => a.setIfInBounds k v) N' x y rfl (by simp), r, R'⟩

/-! slices -/
noncomputable def JSl (G : GP) (c : FC) (ρ : LE) (σ : AH) (value slice : Expr) (o l u : Value) (Q : Value → AH → Prop) : Prop :=
  ∀ Φ s E ov vl vu sl, er ov = o → er vl = l → er vu = u → St Φ c ρ σ s → s.heap.IsSliceOf sl vl vu .none → wpAny (MM G.w) c.A (subscriptTail value slice ov (.ref sl)) (fun v s' => Sm s s' ∧ ∃ σ', Q (er v) σ' ∧ St Φ c ρ σ' s') E s
abbrev JP (G : GP) (c : FC) (env : Env) (ρ : LE) (σ : AH) (e : Option Expr) (Q : Value → AH → Prop) : Prop := J G c ρ σ (evalPart e env) (fun v σ' => Q (er v) σ')
theorem jp_none {P : Value → AH → Prop} (h : P .none σ) : JP G c env ρ σ none P := J.pure h
theorem jp_some {e : Expr} {P : Value → AH → Prop} (h : JE G c ρ σ (eval e env) P) : JP G c env ρ σ (some e) P := h
theorem je_slice {value : Expr} {lo up : Option Expr} {p pos : Pos}
    (h : JE G c ρ σ (eval value env) (fun o σ1 => JP G c env ρ σ1 lo (fun l σ2 => JP G c env ρ σ2 up (fun u σ3 => JSl G c ρ σ3 value (.Slice lo up none p) o l u Q)))) :
    JE G c ρ σ (eval (.Subscript value (.Slice lo up none p) pos) env) Q := .mk fun Φ s E S =>
  Subscript_ (wpAny_mono (h.run Φ s E S) (fun o s1 ⟨z, σ1, h1, S1⟩ => wpAny_Slice (wpAny_mono (h1.run Φ s1 E S1) (fun l s2 ⟨z2, σ2, h2, S2⟩ => wpAny_mono (h2.run Φ s2 E S2) (fun u s3 ⟨z3, σ3, h3, S3⟩ =>
    wpAny_pure (wpAny_mono (h3 Φ _ E o l u _ rfl rfl rfl (S3.push _) (Heap.IsSliceOf.new ..)) (fun v s4 ⟨z4, σ4, h4, S4⟩ => ⟨z.trans (z2.trans (z3.trans ⟨z4.1, z4.2.1, z4.2.2⟩)), σ4, h4, S4⟩) fun _ _ x => x)) fun _ _ x => x) fun _ _ x => x)) fun _ _ x => x)
theorem jsl_list {value slice : Expr} {a : Addr} {vs ws : List Value} {l u : Value} {lo hi : Option Int} (ha : σ a = some (.list vs)) (hz : vs.length ≤ 1000)
    (pl : ∀ v, er v = l → IsPart v lo) (pu : ∀ v, er v = u → IsPart v hi) (hw : ∀ us : Array Value, us.toList.map er = vs → (slicePick us lo hi none).toList.map er = ws)
    (h : ∀ d, σ d = none → Q (.ref d) (upd σ d (.list ws)))
    (hs : ∀ o i, subscripted slice false o i = PySem.operate [i, o] (getItem o i) := by intro _ _; rfl) : JSl G c ρ σ value slice (.ref a) l u Q := fun Φ s E ov vl vu sl eo el eu S hsl => by
  rw [er_ref eo]
  obtain ⟨us, hl, e⟩ := S.isList ha
  have hsz : us.size = vs.length := by rw [← e, List.length_map, Array.length_toList]
  refine tail_any hl.typeIs slot_list_getitem.lookup (wpAny_getItem_list_slice hl hsl (pl _ el) (pu _ eu) .none (by simp) ?_ (by rw [sizeLine_eq]; omega)) (hs _ _)
  exact ⟨⟨rfl, rfl, rfl⟩, _, h _ (S.fresh (Nat.le_refl _)), S.add rfl ⟨_, _, rfl, hw us e⟩⟩
theorem isPart_none {v : Value} (h : er v = .none) : IsPart v none := by rw [er_none h]; exact .none
theorem isPart_int {v : Value} {i : Int} (h : er v = vi i) : IsPart v (some i) := by obtain ⟨t, rfl⟩ := er_int h; exact .int i t
theorem jsl_upto {value slice : Expr} {a : Addr} {vs : List Value} {k : Nat} (ha : σ a = some (.list vs)) (hz : vs.length ≤ 1000)
    (h : ∀ d, σ d = none → Q (.ref d) (upd σ d (.list (vs.take k))))
    (hs : ∀ o i, subscripted slice false o i = PySem.operate [i, o] (getItem o i) := by intro _ _; rfl) : JSl G c ρ σ value slice (.ref a) .none (vi k) Q :=
  jsl_list ha hz (fun _ => isPart_none) (fun _ => isPart_int) (fun us e => by rw [slicePick_upto', List.toList_toArray, List.map_take, e]) h hs
theorem jsl_from {value slice : Expr} {a : Addr} {vs : List Value} {k : Nat} (ha : σ a = some (.list vs)) (hz : vs.length ≤ 1000)
    (h : ∀ d, σ d = none → Q (.ref d) (upd σ d (.list (vs.drop k))))
    (hs : ∀ o i, subscripted slice false o i = PySem.operate [i, o] (getItem o i) := by intro _ _; rfl) : JSl G c ρ σ value slice (.ref a) (vi k) .none Q :=
  jsl_list ha hz (fun _ => isPart_int) (fun _ => isPart_none) (fun us e => by rw [slicePick_from', List.toList_toArray, List.map_drop, e]) h hs

theorem adjust_upto (b n : Nat) (hb : b ≤ n) : Builtin.Slice.sliceAdjust none (some (b : Int)) 1 (n : Int) = (0, (b : Int)) := by
  unfold Builtin.Slice.sliceAdjust
  have h1 : ¬ ((1 : Int) < 0) := by omega
  have h2 : ¬ ((b : Int) < 0) := by omega
  simp only [h1, h2, if_false]
  congr 1
  omega
theorem places_upto (b : Nat) : Builtin.Slice.slicePlaces 0 (b : Int) 1 = b := by
  unfold Builtin.Slice.slicePlaces
  have h1 : (1 : Int) > 0 := by omega
  simp only [h1, if_true, Int.ediv_one]
  split <;> omega
theorem sliceApplied_upto {prog : Program} {w : World} {A : Around} {E : Value → Shared → Prop} {sl : Addr} {b n : Nat} {u : Tok} {Q : Int × Int × Nat → Shared → Prop} (hs : s.heap.IsSliceOf sl .none (.int b u) .none) (hb : b < n) (h : Q (0, 1, b) s) :
    wpAny (model prog w) A (Builtin.Slice.sliceApplied (.ref sl) (pure (n : Int))) Q E s := by
  obtain ⟨os, hos, hcs, hds⟩ := id hs
  unfold Builtin.Slice.sliceApplied Builtin.Slice.sliceFields
  refine wpAny_bind (wpAny_bind (wpAny_field hos hds (x := .none) rfl (wpAny_bind (wpAny_field hos hds (x := .int b u) rfl (wpAny_bind (wpAny_field hos hds (x := .none) rfl (wpAny_pure ?_)))))))
  refine wpAny_bind (slicePart_none ?_)
  show wpAny _ _ (if ((1 : Int) == 0) = true then _ else _) _ _ s
  rw [if_neg (by decide)]
  refine wpAny_bind (slicePart_none (wpAny_bind (slicePart_int (wpAny_bind (wpAny_pure ?_)))))
  show wpAny _ _ (match Builtin.Slice.sliceAdjust none (some (b : Int)) 1 (n : Int) with | (lo, hi) => pure (lo, (1 : Int), Builtin.Slice.slicePlaces lo hi 1)) _ _ s
  rw [adjust_upto b n (Nat.le_of_lt hb)]
  show wpAny _ _ (pure ((0 : Int), (1 : Int), Builtin.Slice.slicePlaces 0 (b : Int) 1)) _ _ s
  rw [places_upto]
  exact wpAny_pure h
theorem pick_upto (xs : Array Value) (b : Nat) : ((List.range b).filterMap fun (k : Nat) => xs[((0 : Int) + (k : Int) * 1).toNat]?).toArray = (xs.toList.take b).toArray := by
  have e : (fun (k : Nat) => xs[((0 : Int) + (k : Int) * 1).toNat]?) = fun k => xs[k]? := by
    funext k
    have : ((0 : Int) + (k : Int) * 1).toNat = k := by omega
    rw [this]
  rw [e]
  have := pick_run xs 0 b
  rw [List.filterMap_map] at this
  simp only [List.drop_zero] at this
  rw [← this]
  congr 2
  funext k
  simp
theorem getItem_tuple_upto {prog : Program} {w : World} {A : Around} {E : Value → Shared → Prop} {t sl : Addr} {items : Array Value} {b : Nat} {u : Tok} {Q : Value → Shared → Prop} (ht : IsTup s.heap t items) (hs : s.heap.IsSliceOf sl .none (.int b u) .none) (hb : b < items.size)
    (h : Q (.ref s.heap.objs.size) { s with heap := s.heap.push { cls := .type "tuple", data := .seq (items.toList.take b).toArray } })
    (hsz : items.size ≤ sizeLine := by size_fits) : wpAny (model prog w) A (getItem (.ref t) (.ref sl)) Q E s := by
  have hdrop : sizeOk (.seq (items.toList.take b).toArray) := by
    show (items.toList.take b).toArray.size ≤ sizeLine
    rw [List.size_toArray, List.length_take, Array.length_toList]
    omega
  obtain ⟨os, hos, hcs, hds⟩ := id hs
  have hTs : s.TypeIs (.ref sl) "slice" := ⟨os, hos, hcs⟩
  unfold getItem
  try with_reducible refine wpAny_holding ?_
  first | refine wpAny_bind (wpAny_pure ?_) | skip
  refine wpAny_bind (wpAny_sequenceKey ht.typeIs (by decide) ?_)
  refine wpAny_bind (wpAny_callSpecial?_slot (name := Str.ofString "__getitem__") ht.typeIs PyProof.Rows.slot_tuple_getitem
    (wpAny_call_entry PyProof.Rows.slot_tuple_getitem ht.typeIs PyProof.Rows.entry_tuple_getitem ?_ (PyProof.Rows.args_tuple_getitem _ _)))
  show wpAny _ _ (Builtin.Tuple.tupleItemsOf (.ref t) >>= _) _ _ s
  refine wpAny_bind (tupleItemsOf_ ht ?_)
  refine wpAny_bind (wpAny_typeOf hTs ?_)
  rw [if_pos (by decide)]
  refine wpAny_bind (sliceApplied_upto hs hb ?_)
  have hno : ¬ (((0 : Int) == 0 && (1 : Int) == 1 && b == items.size) = true) := by
    simp; omega
  show wpAny _ _ (if ((0 : Int) == 0 && (1 : Int) == 1 && b == items.size) = true then _ else _) _ _ s
  rw [if_neg hno, pick_upto items b]
  first
    | exact wpAny_bind (m := Builtin.Tuple.tupleExact _) (wpAny_newObj_type (wpAny_pure ⟨_, rfl, wpAny_pure h⟩) hdrop)
    | exact wpAny_bind (m := Builtin.Tuple.tupleExact _) (wpAny_newObj_type (wpAny_bind (wpAny_pure (wpAny_pure ⟨_, rfl, wpAny_pure h⟩))) hdrop)
    | exact wpAny_bind (wpAny_bind (m := Builtin.Tuple.tupleExact _) (wpAny_newObj_type (wpAny_pure (wpAny_pure ⟨_, rfl, wpAny_pure h⟩)) hdrop))
    | exact wpAny_bind (wpAny_bind (m := Builtin.Tuple.tupleExact _) (wpAny_newObj_type (wpAny_pure ⟨_, rfl, wpAny_pure h⟩) hdrop))
theorem jsl_tup {value slice : Expr} {a : Addr} {vs : List Value} {k : Nat} (ha : σ a = some (.tup vs)) (hz : vs.length ≤ 1000) (hk : k < vs.length)
    (h : ∀ d, σ d = none → Q (.ref d) (upd σ d (.tup (vs.take k))))
    (hs : ∀ o i, subscripted slice false o i = PySem.operate [i, o] (getItem o i) := by intro _ _; rfl) : JSl G c ρ σ value slice (.ref a) .none (vi k) Q := fun Φ s E ov vl vu sl eo el eu S hsl => by
  rw [er_ref eo]
  obtain ⟨us, hl, e⟩ := S.isTup ha
  have hsz : us.size = vs.length := by rw [← e, List.length_map, Array.length_toList]
  rw [er_none el] at hsl
  obtain ⟨t, rfl⟩ := er_int eu
  refine tail_any hl.typeIs slot_tuple_getitem.lookup (getItem_tuple_upto hl hsl (by omega) ?_ (by rw [sizeLine_eq]; omega)) (hs _ _)
  exact ⟨⟨rfl, rfl, rfl⟩, _, h _ (S.fresh (Nat.le_refl _)), S.add rfl ⟨_, _, rfl, by rw [List.toList_toArray, List.map_take, e]⟩⟩

/-! == over data -/
inductive DatH (σ : AH) : Value → PyData → Prop
  | none : DatH σ .none .none
  | bool (b) : DatH σ (.bool b) (.bool b)
  | int (i) : DatH σ (vi i) (.int i)
  | tup {a : Addr} {is : List Int} : σ a = some (.tup (is.map vi)) → DatH σ (.ref a) (.tuple (is.map .int))
  | bools {a : Addr} {bs : List Bool} : σ a = some (.list (bs.map Value.bool)) → DatH σ (.ref a) (.list (bs.map .bool))
  | tups {a : Addr} {ts : List Addr} {rs : List (List Int)} : σ a = some (.list (ts.map Value.ref)) → ts.length = rs.length → (∀ (k : Nat) (t : Addr) (is : List Int), ts[k]? = some t → rs[k]? = some is → σ t = some (.tup (is.map vi))) → DatH σ (.ref a) (.list (rs.map fun is => .tuple (is.map .int)))
theorem reads_ints {h : Heap} : ∀ {us : List Value} {is : List Int}, us.map er = is.map vi → ReadsAll h us (is.map .int) []
  | [], [], _ => .nil
  | [], _ :: _, e => by simp at e
  | _ :: _, [], e => by simp at e
  | u :: us, i :: is, e => by
    simp only [List.map_cons, List.cons.injEq] at e
    obtain ⟨t, rfl⟩ := er_int e.1
    exact ReadsAll.cons (as := []) (bs := []) (.int i t) (reads_ints e.2)
theorem reads_bools {h : Heap} : ∀ {us : List Value} {is : List Bool}, us.map er = is.map Value.bool → ReadsAll h us (is.map .bool) []
  | [], [], _ => .nil
  | [], _ :: _, e => by simp at e
  | _ :: _, [], e => by simp at e
  | u :: us, i :: is, e => by
    simp only [List.map_cons, List.cons.injEq] at e
    rw [er_bool e.1]
    exact ReadsAll.cons (as := []) (bs := []) (.bool i) (reads_bools e.2)
theorem DatH.reads {v : Value} {d : PyData} (D : DatH σ v d) (S : St Φ c ρ σ s) {u : Value} (e : er u = v) : ∃ as, Reads s.heap u d as := by
  cases D with
  | none => rw [er_none e]; exact ⟨_, .none⟩
  | bool b => rw [er_bool e]; exact ⟨_, .bool b⟩
  | int i => obtain ⟨t, rfl⟩ := er_int e; exact ⟨_, .int i t⟩
  | tup ha =>
    rw [er_ref e]
    obtain ⟨us, ⟨o, ho, hc, k, hd⟩, e'⟩ := S.isTup ha
    exact ⟨_, .tuple ho hc hd (reads_ints e')⟩
  | bools ha =>
    rw [er_ref e]
    obtain ⟨us, ⟨o, ho, hc, k, hd⟩, e'⟩ := S.isList ha
    exact ⟨_, .list ho hc hd (reads_bools e')⟩
  | @tups a ts rs ha hl ht =>
    rw [er_ref e]
    obtain ⟨us, ⟨o, ho, hc, k, hd⟩, e'⟩ := S.isList ha
    have := er_refs e'
    refine ⟨_, .list ho hc hd (as := []) ?_⟩
    rw [this]
    clear this e' hd ha
    induction ts generalizing rs with
    | nil => cases rs with
      | nil => exact .nil
      | cons => simp at hl
    | cons t ts ih =>
      cases rs with
      | nil => simp at hl
      | cons r rs =>
        obtain ⟨us', ⟨o', ho', hc', k', hd'⟩, e2⟩ := S.isTup (ht 0 t r rfl rfl)
        exact ReadsAll.cons (as := []) (bs := []) (.tuple ho' hc' hd' (reads_ints e2)) (ih (by simpa using hl) fun k t is h1 h2 => ht (k + 1) t is h1 h2)
theorem FC.Ok.room64 (O : c.Ok G n) : c.A.units + 64 < cLine := by have := O.units; show c.un + 64 < _; omega
theorem jc_eqD {a b : Value} {d e : PyData} (O : c.Ok G n) (ha : DatH σ a d) (hb : DatH σ b e) (sd : SeqAt.shaped d = true) (se : SeqAt.shaped e = true) (h : Q (.bool (PyData.eqv d e)) σ) : JC G c ρ σ .Eq a b Q := fun u v eu ev => .mk fun Φ s E S => by
  obtain ⟨as, r1⟩ := ha.reads S eu
  obtain ⟨bs, r2⟩ := hb.reads S ev
  exact eq_dataH r1 r2 sd se O.room64 ⟨.rfl' s, σ, h, S⟩
theorem jc_neD {a b : Value} {d e : PyData} (O : c.Ok G n) (ha : DatH σ a d) (hb : DatH σ b e) (sd : SeqAt.shaped d = true) (se : SeqAt.shaped e = true) (h : Q (.bool (!PyData.eqv d e)) σ) : JC G c ρ σ .NotEq a b Q := fun u v eu ev => .mk fun Φ s E S => by
  obtain ⟨as, r1⟩ := ha.reads S eu
  obtain ⟨bs, r2⟩ := hb.reads S ev
  exact ne_dataH r1 r2 sd se O.room64 ⟨.rfl' s, σ, h, S⟩
end
end Mine
end

section
open PySem PySem.W PyProof.Rows PySem.Spec PySem.Calls
namespace Mine
section
variable {G : GP} {c : FC} {env : Env} {ρ : LE} {σ : AH} {n m : Nat} {Q : Value → AH → Prop} {N : LE → AH → Prop} {R : Value → AH → Prop} {Φ : Led} {s : Shared}

/-! a list against [] -/
theorem FC.Ok.room1 (O : c.Ok G n) : c.A.units < cLine := by have := O.units; show c.un < _; omega
theorem jc_ne_nil {a b : Addr} {vs : List Value} (O : c.Ok G n) (ha : σ a = some (.list vs)) (hb : σ b = some (.list [])) (h : Q (.bool (!vs.isEmpty)) σ) : JC G c ρ σ .NotEq (.ref a) (.ref b) Q := fun u v eu ev => .mk fun Φ s E S => by
  rw [er_ref eu, er_ref ev]
  obtain ⟨us, hl, e⟩ := S.isList ha
  obtain ⟨us', hl', e'⟩ := S.isList hb
  have h2 : us'.size = 0 := by rw [← Array.length_toList, ← List.length_map (f := er), e']; rfl
  have h1 : us.size = vs.length := by rw [← e, List.length_map, Array.length_toList]
  cases vs with
  | nil =>
    refine cmp_ofNotEq (SeqAt.RcNeAt.lists (e := fun _ => true) hl hl' (by rw [h1, h2]; rfl) O.room1 (fun j q _ => absurd q (by rw [h1]; exact Nat.not_lt_zero _)) _ _ _ _ ⟨.rfl' s, σ, ?_, S⟩)
    have : (List.range us.size) = [] := by rw [h1]; rfl
    rw [this]; exact h
  | cons v vs =>
    refine cmp_ofNotEq (SeqAt.RcNeAt.lists_lengths hl hl' (by rw [h1, h2]; simp) O.room1 _ _ _ _ ⟨.rfl' s, σ, h, S⟩)
theorem jc_eq_nil {a b : Addr} {vs : List Value} (O : c.Ok G n) (ha : σ a = some (.list vs)) (hb : σ b = some (.list [])) (h : Q (.bool vs.isEmpty) σ) : JC G c ρ σ .Eq (.ref a) (.ref b) Q := fun u v eu ev => .mk fun Φ s E S => by
  rw [er_ref eu, er_ref ev]
  obtain ⟨us, hl, e⟩ := S.isList ha
  obtain ⟨us', hl', e'⟩ := S.isList hb
  have h2 : us'.size = 0 := by rw [← Array.length_toList, ← List.length_map (f := er), e']; rfl
  have h1 : us.size = vs.length := by rw [← e, List.length_map, Array.length_toList]
  cases vs with
  | nil =>
    refine SeqAt.eq_listAt (e := fun _ => true) hl hl' (by rw [h1, h2]; rfl) O.room1 (fun j q _ => absurd q (by rw [h1]; exact Nat.not_lt_zero _)) ⟨.rfl' s, σ, ?_, S⟩
    have : (List.range us.size) = [] := by rw [h1]; rfl
    rw [this]; exact h
  | cons v vs =>
    exact SeqAt.eq_list_lengthsAt hl hl' (by rw [h1, h2]; simp) O.room1 ⟨.rfl' s, σ, h, S⟩

/-! forgetting -/
abbrev Sub (σ τ : AH) : Prop := ∀ a o, σ a = some o → τ a = some o
theorem Sub.upd {σ : AH} {a : Addr} {o : AO} (h : σ a = none) : Sub σ (upd σ a o) := fun b o' e => by
  rw [upd_other]; exact e
  rintro rfl; rw [h] at e; cases e
theorem J.shrink {α : Type} {t : Sem α} {P : α → AH → Prop} (h : J G c ρ σ t (fun v σ1 => ∃ τ, Sub τ σ1 ∧ P v τ)) : J G c ρ σ t P := .mk fun Φ s E S =>
  wpAny_mono (h.run Φ s E S) (fun v s1 ⟨z, σ1, ⟨τ, k, h1⟩, S1⟩ => ⟨z, τ, h1, S1.mono k⟩) fun _ _ x => x
/-! classes -/
theorem valid_cls {C fI : Addr} {specI spec : SpecT} (V : Valid G (.ref fI) n specI) (hm : makesIn (Mine.hd.heap_39 G.w.params) C = true) (hi : findIn (Mine.hd.heap_39 G.w.params) (.ref C) "__init__" = some (some (.ref fI)))
    (hf : isFn (Mine.hd.heap_39 G.w.params) (.ref fI) = true)
    (h : ∀ vs σ Q, spec vs σ Q → ∀ x, σ x = none → specI (.ref x :: vs) (upd σ x (.part C [] [])) (fun v σ' => v = .none ∧ Q (.ref x) σ')) : Valid G (.ref C) (n + 1) spec := by
  refine .mk fun c O ρ σ vs Q hspec Φ s E S => ?_
  have S0 := S
  obtain ⟨m, news, F, N, r, R⟩ := S
  have hroom := O.room
  have hun := O.units
  refine make_K F N (O.gd.K.keeps F.keep) hm hi (beq_iff_eq.mp hf) fun x dx h' F' N' hlt hdx => ?_
  have ltx : ∀ p ∈ news, p.1 < x := fun p hp => Nat.lt_trans (hlt p hp) hdx
  have ne1 : ∀ p ∈ news, p.1 ≠ x := fun p hp => Nat.ne_of_lt (ltx p hp)
  have ne2 : ∀ p ∈ news, p.1 ≠ dx := fun p hp => Nat.ne_of_lt (hlt p hp)
  have hx : σ x = none := R.none_of_fresh ne1
  have R' := R.pushI (ao := .part C [] []) (s := ⟨C, [], []⟩) (es := []) (n := 0) ne1 ne2 (Nat.ne_of_gt hdx) rfl trivial
  have S' : St Φ c ρ (upd σ x (.part C [] [])) { s with heap := h' } := ⟨m, _, F', N', r, R'⟩
  let c' : FC := { c with dp := c.dp + 1, un := c.un + 1 }
  have O' : c'.Ok G n := ⟨O.bel, O.gd, O.kind, O.loc, O.glo, O.nd, by show c.dp + 1 + 4 * n + 10 < _; omega, by show c.un + 1 + 20 * n + 100 < _; omega⟩
  have eA : c.A.under (.builtin "type.__call__" ⟨.ref C :: vs, []⟩) = c'.A := rfl
  rw [eA]
  refine codeAny_mono (V.run c' O' ρ (upd σ x (.part C [] [])) (.ref x :: vs) _ (h _ _ _ hspec x hx) Φ _ E S') fun r s' hr => ?_
  cases r with
  | error e => exact hr
  | ok f =>
    cases f with
    | ret v =>
      obtain ⟨z, σ', ⟨h1, h2⟩, S2⟩ := hr
      exact ⟨er_none h1, z, σ', h2, S2⟩
    | next => exact hr
    | brk => exact hr
    | cont => exact hr

/-! cells -/
noncomputable def cellsOn (cm : PySem.Str → Option Value) : List (PySem.Str × Addr) → AH → AH
  | [], σ => σ
  | (x, a) :: r, σ => upd (cellsOn cm r σ) a (.cell (cm x))
theorem rep_cells {cm : PySem.Str → Option Value} {cs : List (PySem.Str × Addr)} {cells news : Led} (h : CellsAre cm cs cells) (nd : (cs.map (·.2)).Nodup) (hne : ∀ p ∈ cs, ∀ q ∈ news, q.1 ≠ p.2) {σ : AH} (R : Rep Φ news σ) :
    Rep Φ (cells ++ news) (cellsOn (fun x => (cm x).map er) cs σ) ∧ ∀ q ∈ cells, ∃ p ∈ cs, q.1 = p.2 := by
  induction h with
  | nil => exact ⟨R, fun _ h => nomatch h⟩
  | @cons x a o cs cells hd _ ih =>
    simp only [List.map_cons, List.nodup_cons] at nd
    obtain ⟨R', k⟩ := ih nd.2 fun p hp => hne p (.tail _ hp)
    refine ⟨R'.push (a := a) (o := o) (fun p hp => ?_) rfl ⟨cm x, hd, rfl⟩, fun q hq => ?_⟩
    · rcases List.mem_append.mp hp with hp | hp
      · obtain ⟨q, hq, e⟩ := k p hp
        intro e2
        exact nd.1 (by rw [← e2, e]; exact List.mem_map_of_mem (f := (·.2)) hq)
      · exact hne (x, a) (.head _) p hp
    · rcases List.mem_cons.mp hq with rfl | hq
      · exact ⟨_, .head _, rfl⟩
      · obtain ⟨p, hp, e⟩ := k q hq; exact ⟨p, .tail _ hp, e⟩
theorem cellsFrom_ge {names : List (PySem.Str × NameKind)} : ∀ {n : Nat} {acc : List (PySem.Str × Addr)}, ∀ p ∈ cellsFrom n names acc, n ≤ p.2 ∨ p ∈ acc := by
  induction names with
  | nil => intro n acc p hp; exact .inr hp
  | cons y r ih =>
    intro n acc p hp
    obtain ⟨y, k⟩ := y
    unfold cellsFrom at hp
    split at hp
    · rcases ih p hp with h | h
      · exact .inl (Nat.le_of_succ_le h)
      · rcases List.mem_cons.mp h with rfl | h
        · exact .inl (Nat.le_refl _)
        · exact .inr h
    · exact ih p hp
theorem cellsFrom_nodup {names : List (PySem.Str × NameKind)} : ∀ {n : Nat} {acc : List (PySem.Str × Addr)}, (acc.map (·.2)).Nodup → (∀ p ∈ acc, p.2 < n) → ((cellsFrom n names acc).map (·.2)).Nodup := by
  induction names with
  | nil => intro n acc h _; exact h
  | cons y r ih =>
    intro n acc h hl
    obtain ⟨y, k⟩ := y
    unfold cellsFrom
    split
    · refine ih ?_ fun p hp => ?_
      · simp only [List.map_cons, List.nodup_cons]
        exact ⟨fun hm => by obtain ⟨p, hp, e⟩ := List.mem_map.mp hm; exact Nat.ne_of_lt (hl p hp) e, h⟩
      · rcases List.mem_cons.mp hp with rfl | hp
        · exact Nat.lt_succ_self _
        · exact Nat.lt_succ_of_lt (hl p hp)
    · exact ih h hl

theorem valid_defC {G : GP} {f : Addr} {n : Nat} {spec : SpecT} {name qual : PySem.Str} {params : Arguments} {body : List Stmt} {scope : Scope} {dV kV doc pm cdv ct oc : Value} {an od : Option Addr} {osl : Array (Option Value)} (ps nm gl : List PySem.Str) (ρ0 : List Value → LE) (cm0 : List Value → PySem.Str → Option Value)
    (ho : (Mine.hd.heap_39 G.w.params).lookup f = some ⟨oc, od, .func (fnOf name qual params body scope dV kV doc pm an cdv ct), osl⟩) (hcd : codeIn (Mine.hd.heap_39 G.w.params) cdv qual = true)
    (hlen : ∀ vs σ Q, spec vs σ Q → vs.length = ps.length)
    (hbind : ∀ us : List Value, us.length = ps.length → bindArgs (fnOf name qual params body scope dV kV doc pm an cdv ct) ⟨us, []⟩ = pure (ps.zip us))
    (hk : scope.kind = .function) (hco : scope.isCoroutine = false) (hgen : scope.isGenerator = false)
    (hkind : ∀ us : List Value, us.length = ps.length → ((ps.zip us).all fun y => scope.names.lookup y.1 == some .local || scope.names.lookup y.1 == some .cell) = true)
    (hnd0 : ((cellsFrom 0 scope.names []).map (·.1)).Nodup)
    (hρ : ∀ us : List Value, us.length = ps.length → EnvRel nm (ρ0 (us.map er)) (bindL (fun x => scope.names.lookup x) (ps.zip us) fun _ => none))
    (hcm : ∀ us : List Value, us.length = ps.length → ∀ x, (bindC (fun x => scope.names.lookup x) (ps.zip us) (fun _ => none) x).map er = cm0 (us.map er) x)
    (hloc : ∀ x ∈ nm, scope.names.lookup x = some .local ∧ (x == dbg) = false) (hglo : ∀ x ∈ gl, scope.names.lookup x = some .globalImplicit ∧ (x == dbg) = false) (hnd : nm.Nodup)
    (hb : ∀ (c : FC) (L' : Nat), c.Ok G n → c.nm = nm → c.gl = gl → c.cs = scope → c.cl = cellsFrom L' scope.names [] → ∀ vs σ Q, spec vs σ Q → (∀ p ∈ c.cl, σ p.2 = none) → JX G c (ρ0 vs) (cellsOn (cm0 vs) c.cl σ) (execs body c.env) (fun _ σ' => Q .none σ') Q) :
    Valid G (.ref f) (n + 1) spec := by
  refine .mk fun c O ρ σ vs Q hspec Φ s E S => ?_
  obtain ⟨m, news, F, N, r, R⟩ := S
  have hl := hlen _ _ _ hspec
  rw [List.length_map] at hl
  obtain ⟨tp, tl, tme, tmg, tmb, T⟩ := O.gd.top
  have hroom := O.room
  have hun := O.units
  refine (code_defC O.bel F O.gd.K N T rfl rfl O.kind ho hcd (by show c.dp < _; omega) (BindsTo.of_eq (hbind vs hl)) (hkind vs hl) hnd0 (fun g L' h₁ tk cells FG F' N' Y B' X' T' hlt => ?_) hco hgen hk)
  have gd' : Gd G g := by
    have st : ∀ b o, c.h₀.get? b = some o → g.get? b = some o := fun b o e => FG.keep b o e
    exact O.gd.keeps st
  let c' : FC := { dp := c.dp + 1, un := c.un + 3, gd := c.gd, cn := qual, cs := scope, L := L', a := f, ccd := cdv, cl := cellsFrom (L' + 1) scope.names [], outer := c.env :: c.outer, A₀ := c.A, base := c.base, h₀ := g, nm := nm, gl := gl }
  have O' : c'.Ok G n := ⟨B', gd', hk, hloc, hglo, hnd, by show c.dp + 1 + 4 * n + 10 < _; omega, by show c.un + 3 + 20 * n + 100 < _; omega⟩
  have hne : ∀ p ∈ cellsFrom (L' + 1) scope.names [], ∀ q ∈ news, q.1 ≠ p.2 := fun p hp q hq => by
    rcases cellsFrom_ge p hp with h | h
    · exact Nat.ne_of_lt (Nat.lt_of_lt_of_le (Nat.lt_succ_of_lt (hlt q hq)) h)
    · cases h
  obtain ⟨R', _⟩ := rep_cells (Φ := Φ) Y (cellsFrom_nodup (by simp) (fun p hp => nomatch hp)) hne R
  have S' : St Φ c' (ρ0 (vs.map er)) (cellsOn (cm0 (vs.map er)) c'.cl σ) { s with heap := h₁, toks := tk } := by
    refine ⟨_, _, F', N', hρ vs hl, ?_⟩
    have : (fun x => (bindC (envOfC qual scope L' f cdv).kindOf (ps.zip vs) (fun _ => none) x).map er) = cm0 (vs.map er) := funext fun x => hcm vs hl x
    rw [← this]; exact R'
  have hnone : ∀ p ∈ c'.cl, σ p.2 = none := fun p hp => R.none_of_fresh fun q hq => hne p hp q hq
  refine wpAny_mono ((hb c' _ O' rfl rfl rfl rfl _ _ _ hspec hnone).run _ _ _ S') (fun fl s' hf => ?_) fun _ _ x => x
  have key : ∀ v σ', Q (er v) σ' → Sm { s with heap := h₁, toks := tk } s' → (∃ ρ', St Φ c' ρ' σ' s') → LeaveK c.h₀ c.L m g (RetP Φ c ρ Q E s) v s' := by
    rintro v σ' hq z ⟨ρ', m', news', F2, N2, r2, R2⟩
    exact ⟨L', m', news', F2, N2, fun F3 N3 => ⟨z, σ', hq, m, news', F3, N3, r, R2⟩⟩
  obtain ⟨z, hf⟩ := hf
  cases fl with
  | next => obtain ⟨ρ', σ', h1, h2⟩ := hf; exact key .none σ' h1 z ⟨ρ', h2⟩
  | ret v => obtain ⟨σ', h1, h2⟩ := hf; exact key v σ' h1 z ⟨[], h2⟩
  | brk => exact hf.elim
  | cont => exact hf.elim

theorem je_cell {x : PySem.Str} {p : Pos} {a : Addr} {v : Value} (O : c.Ok G n) (hc : c.cl.lookup x = some a) (hv : σ a = some (.cell (some v))) (h : Q v σ) (hx : c.cs.names.lookup x = some .cell) (hb : (x == dbg) = false) : JE G c ρ σ (eval (.Name x p) c.env) Q := .mk fun Φ s E S => by
  have S0 := S
  obtain ⟨m, news, F, N, r, R⟩ := S
  obtain ⟨o, hm, u, hd, eu⟩ := R.at1 hv rfl
  cases u with
  | none => simp at eu
  | some u =>
    simp only [Option.map_some, Option.some.injEq] at eu
    exact nameX_C N hc hm hd ⟨.rfl' s, σ, by show Q (er u) σ; rw [eu]; exact h, S0⟩ O.kind hx hb
theorem storeX_C' {cn : PySem.Str} {cs : Scope} {ccd : Value} {cl : List (PySem.Str × Addr)} {M : Model} {A : Around} {E : Value → Shared → Prop} {h₀ : Heap} {L a ca : Addr} {m : PySem.Str → Option Value} {news : Led} {o : Obj} {v : Value} {v₀ : Option Value} {x : PySem.Str} {P : Unit → Shared → Prop}
    (F : Fr h₀ L s.heap m) (N : News h₀ L s.heap news) (hc : cl.lookup x = some ca) (hm : (ca, o) ∈ news) (hd : o.data = .cell v₀)
    (h : ∀ h' o', Heap.SameBut ca s.heap h' → h'.get? ca = some o' → o'.data = .cell (some v) → P () { s with heap := h' })
    (hk : cs.kind = .function) (hx : (envX cn cs L a ccd cl).kindOf x = some .cell) : wpAny M A (storeName (envX cn cs L a ccd cl) x v) P E s := by
  have hmem := N _ hm
  refine wpAny_storeName_cell hk hx hc ⟨o, hmem.1, hd⟩ fun h' hv hs => ?_
  obtain ⟨o', ho', hd'⟩ := hv
  exact h h' o' hs ho' hd'
theorem jas_cell {x : PySem.Str} {p : Pos} {a : Addr} {v0 : Option Value} {v : Value} {P : LE → AH → Prop} (O : c.Ok G n) (hc : c.cl.lookup x = some a) (hv : σ a = some (.cell v0)) (h : P ρ (upd σ a (.cell (some v)))) (hx : c.cs.names.lookup x = some .cell) : JAs G c c.env ρ σ (.Name x p) v P := fun Φ s E u eu S => by
  subst eu
  obtain ⟨m, news, F, N, r, R⟩ := S
  obtain ⟨o, hm, ⟨u0, hd, eu0⟩, hR⟩ := R.turn (ao' := .cell (some (er u))) hv rfl rfl
  refine wpAny_assign_Name (storeX_C' F N hc hm hd (fun h' o' hs ho hd' => ?_) O.kind hx)
  obtain ⟨news', U, R'⟩ := hR o' ⟨some u, hd', rfl⟩
  have z := N _ hm
  obtain ⟨pre, post, rfl, rfl, x1, y1⟩ := U.split
  exact ⟨⟨rfl, rfl, rfl⟩, ρ, _, h, m, _, F.change hs z.2.1 z.2.2, news_set N x1 y1 hs ho, r, R'⟩
theorem js_assign_cell {e : Expr} {x : PySem.Str} {a : Addr} {p p' : Pos} (O : c.Ok G n) (hc : c.cl.lookup x = some a) (hx : c.cs.names.lookup x = some .cell) (h : JE G c ρ σ (eval e c.env) (fun v σ1 => ∃ v0, σ1 a = some (.cell v0) ∧ N ρ (upd σ1 a (.cell (some v)))))
    (hs : swapsWith e (some (.Name x p')) p.line c.env = pure false := by rfl) : JX G c ρ σ (exec (.Assign [.Name x p'] e p) c.env) N R := .mk fun Φ s E S =>
  wpAny_Assign_Name (wpAny_mono (h.run Φ s E S) (fun v s1 ⟨z, σ1, ⟨v0, h1, h2⟩, S1⟩ => by
    obtain ⟨m, news, F, N', r, R⟩ := S1
    obtain ⟨o, hm, ⟨u0, hd, eu0⟩, hR⟩ := R.turn (ao' := .cell (some (er v))) h1 rfl rfl
    refine storeX_C' F N' hc hm hd (fun h' o' hs ho hd' => ?_) O.kind hx
    obtain ⟨news', U, R'⟩ := hR o' ⟨some v, hd', rfl⟩
    have z' := N' _ hm
    obtain ⟨pre, post, rfl, rfl, x1, y1⟩ := U.split
    exact ⟨z.trans ⟨rfl, rfl, rfl⟩, ρ, _, h2, m, _, F.change hs z'.2.1 z'.2.2, news_set N' x1 y1 hs ho, r, R'⟩) fun _ _ x => x) hs
end
end Mine
end

section
open PySem PySem.W PyProof.Rows PySem.Spec PySem.Calls
namespace Mine
theorem Rep.perm {Φ Φ' news : Led} {σ : AH} (R : Rep Φ news σ) (h : ∀ p ∈ Φ', p ∈ Φ) : Rep Φ' news σ := by
  obtain ⟨dx, R⟩ := R
  exact ⟨dx, ⟨R.nodup, R.holds, R.free, R.inj, fun p hp => R.fr _ (h p hp), fun p hp => R.off _ (h p hp), fun p hp => R.offd _ (h p hp)⟩⟩
theorem Rep.lift {Φ news : Led} {σ : AH} {a : Addr} {o : Obj} {ao : AO} (R : Rep ((a, o) :: Φ) news σ) (hne : ∀ p ∈ Φ, p.1 ≠ a) (hs : shape ao = none) (h : Cel ao o) : Rep Φ news (upd σ a ao) := by
  obtain ⟨dx, R⟩ := R
  have h0 : σ a = none := R.off _ (.head _)
  have h1 := R.offd _ (.head _)
  refine ⟨dx, ⟨R.nodup, fun b o' e => ?_, fun b o' e q => ?_, fun b o' d o2 e e2 q q2 z => ?_, fun p hp => R.fr _ (.tail _ hp), fun p hp => ?_, fun p hp b o' e q => ?_⟩⟩
  · by_cases hb : b = a
    · subst hb; rw [upd_self] at e; cases e
      unfold HoldsAt; rw [hs]; exact ⟨o, R.fr _ (.head _), h⟩
    · rw [upd_other hb] at e; exact R.holds _ _ e
  · have hb : b ≠ a := by rintro rfl; rw [upd_self] at e; cases e; rw [hs] at q; cases q
    rw [upd_other hb] at e
    rw [upd_other (h1 _ _ e q)]; exact R.free _ _ e q
  · have hb : b ≠ a := by rintro rfl; rw [upd_self] at e; cases e; rw [hs] at q; cases q
    have hd : d ≠ a := by rintro rfl; rw [upd_self] at e2; cases e2; rw [hs] at q2; cases q2
    rw [upd_other hb] at e; rw [upd_other hd] at e2
    exact R.inj _ _ _ _ e e2 q q2 z
  · rw [upd_other (hne p hp)]; exact R.off _ (.tail _ hp)
  · have hb : b ≠ a := by rintro rfl; rw [upd_self] at e; cases e; rw [hs] at q; cases q
    rw [upd_other hb] at e
    exact R.offd _ (.tail _ hp) _ _ e q
theorem Rep.lower {Φ news : Led} {σ : AH} {a : Addr} {o : Obj} (R : Rep Φ news (upd σ a (.raw o))) (h0 : σ a = none) : Rep ((a, o) :: Φ) news σ := by
  obtain ⟨dx, R⟩ := R
  have up : ∀ b o', σ b = some o' → upd σ a (.raw o) b = some o' := fun b o' e => by
    rw [upd_other]; exact e
    rintro rfl; rw [h0] at e; cases e
  have dn : ∀ b, upd σ a (.raw o) b = none → σ b = none := fun b e => by
    by_cases hb : b = a
    · rw [hb]; exact h0
    · rw [upd_other hb] at e; exact e
  have hm : (a, o) ∈ news := by
    have := R.holds a _ upd_self
    unfold HoldsAt at this
    obtain ⟨o', h1, h2⟩ := this
    have : o' = o := h2
    exact this ▸ h1
  refine ⟨dx, ⟨R.nodup, fun b o' e => R.holds _ _ (up _ _ e), fun b o' e q => dn _ (R.free _ _ (up _ _ e) q), fun b o' d o2 e e2 q q2 z => R.inj _ _ _ _ (up _ _ e) (up _ _ e2) q q2 z, fun p hp => ?_, fun p hp => ?_, fun p hp b o' e q => ?_⟩⟩
  · rcases List.mem_cons.mp hp with rfl | hp
    · exact hm
    · exact R.fr _ hp
  · rcases List.mem_cons.mp hp with rfl | hp
    · exact h0
    · exact dn _ (R.off _ hp)
  · rcases List.mem_cons.mp hp with rfl | hp
    · intro z
      have := R.free _ _ (up _ _ e) q
      rw [show dx b = a from z, upd_self] at this; cases this
    · exact R.offd _ hp _ _ (up _ _ e) q

section
variable {G : GP} {c : FC} {env : Env} {ρ : LE} {σ : AH} {n m : Nat} {Q : Value → AH → Prop} {N : LE → AH → Prop} {R : Value → AH → Prop} {Φ Φ' : Led} {s : Shared} {a : Addr} {o : Obj}
theorem St.perm (S : St Φ c ρ σ s) (h : ∀ p ∈ Φ', p ∈ Φ) : St Φ' c ρ σ s := by
  obtain ⟨m, news, F, N, r, R⟩ := S; exact ⟨m, news, F, N, r, R.perm h⟩
theorem St.lift {ao : AO} (S : St ((a, o) :: Φ) c ρ σ s) (hne : ∀ p ∈ Φ, p.1 ≠ a) (hs : shape ao = none) (h : Cel ao o) : St Φ c ρ (upd σ a ao) s := by
  obtain ⟨m, news, F, N, r, R⟩ := S; exact ⟨m, news, F, N, r, R.lift hne hs h⟩
theorem St.lower (S : St Φ c ρ (upd σ a (.raw o)) s) (h0 : σ a = none) : St ((a, o) :: Φ) c ρ σ s := by
  obtain ⟨m, news, F, N, r, R⟩ := S; exact ⟨m, news, F, N, r, R.lower h0⟩

abbrev tests (ifs : List Expr) (env : Env) : Sem Bool := forIn ifs true fun c r => if r = true then do let ok ← isTrue c env (eval c env); pure (ForInStep.yield ok) else pure (ForInStep.yield r)
theorem jt_tests_nil {P : Bool → AH → Prop} (h : P true σ) : J G c ρ σ (tests [] env) P := .mk fun Φ s E S => wpAny_tests_nil (fin_s (F := fun τ => P true τ) S h)
theorem jt_tests_one {P : Bool → AH → Prop} {t : Expr} (h : JT G c env ρ σ t P) : J G c ρ σ (tests [t] env) P := .mk fun Φ s E S => wpAny_tests_one (h.run Φ s E S)

noncomputable def Back (C : Addr) (oC : Obj) (P : AH → Prop) (σ' : AH) : Prop := ∃ σ2, σ2 C = none ∧ Sub (upd σ2 C (.raw oC)) σ' ∧ P σ2
noncomputable def CTurn (G : GP) (c : FC) (ρ : LE) (env : Env) (scope : Scope) (cl : List (PySem.Str × Addr)) (x : PySem.Str) (elt : Expr) (ifs : List Expr) (vs : List Value) (I : Nat → List Value → AH → Prop) : Prop :=
  ∀ k ys σ w, vs[k]? = some w → I k ys σ → ∀ C oC m u, σ C = none → LCg.NsObj oC m → m x = some u → er u = w →
    J G c ρ (upd σ C (.raw oC)) (tests ifs (compEnvC scope cl C env)) (fun b σ1 => (b = true → JE G c ρ σ1 (eval elt (compEnvC scope cl C env)) (fun y σ2 => Back C oC (I (k + 1) (ys ++ [y])) σ2)) ∧ (b = false → Back C oC (I (k + 1) ys) σ1))

theorem comp_core {elt iter : Expr} {x : PySem.Str} {px : Pos} {ifs : List Expr} {scope : Scope} {cl : List (PySem.Str × Addr)} {pos : Pos} {vs : List Value} {I : Nat → List Value → AH → Prop} {it l : Addr} {E : Value → Shared → Prop} {RR : Value → Addr → Result → Shared → Prop}
    (hl : ∀ k ys σ, I k ys σ → σ l = some (.list vs)) (hz : vs.length ≤ 1000)
    (turn : CTurn G c ρ env scope cl x elt ifs vs I)
    (hcell : ∀ y ∈ scope.names, y.2 ≠ .cell) (hkind : scope.kind = .function) (hx : scope.names.lookup x = some .local)
    (h0 : I 0 [] σ) (S : St ((it, lIt l 0) :: Φ) c ρ σ s) (hne : ∀ p ∈ Φ, p.1 ≠ it)
    (hRR : ∀ D C oC m s' σ' ys, Sm s s' → I vs.length ys σ' → LCg.NsObj oC m → σ' D = none → C ≠ c.L → (∀ p ∈ Φ, p.1 ≠ C) → St ((C, oC) :: Φ) c ρ (upd σ' D (.list ys)) s' → RR (.ref D) C (.ok .next) s') :
    wpAny (MM G.w) c.A (newList []) (fun acc s₃ => wpAny (MM G.w) c.A (newFunctionEnv scope env.globals cl [] env.qual none .none (some env)) (fun cenv s₄ =>
      codeAny (MM G.w) c.A (.compStart (.ListComp elt [⟨.Name x px, iter, ifs, 0⟩] scope pos) 0 (.ref it) acc { cenv with scope := relabel scope env }) (RR acc cenv.locals) s₄) E s₃) E s := by
  refine wpAny_newObj_type (wpAny_newFunctionEnv hcell (by intro y hy; simp at hy) (fun h₁ hns₁ hsb₁ => ?_) hkind)
  dsimp only at hns₁ hsb₁ ⊢
  generalize hDe : s.heap.objs.size = D at hns₁ hsb₁ ⊢
  obtain ⟨S2, hneD⟩ := S.holdF (listOf #[] 0)
  rw [hDe] at S2 hneD
  generalize hH2 : s.heap.push { cls := .type "list", dict := none, data := .seq ([] : List Value).toArray } = H2 at hns₁ hsb₁ ⊢
  have S2 : St ((D, listOf #[] 0) :: (it, lIt l 0) :: Φ) c ρ σ { s with heap := H2 } := by rw [← hH2]; exact S2
  obtain ⟨S3, hneC⟩ := S2.holdF { cls := .type "dict", data := .dict #[] }
  obtain ⟨oC0, heC0, hoC0⟩ := LCg.ns_obj hns₁
  generalize hCe : H2.objs.size = C at hns₁ hsb₁ S3 hneC heC0 ⊢
  have hneC' : ∀ p ∈ (D, listOf #[] 0) :: (it, lIt l 0) :: Φ, p.1 ≠ C := fun p hp => hneC p hp
  have S4 := S3.turnF (h' := h₁) (o' := oC0) hneC (fun b o hb e => hsb₁.extBut b o hb e) heC0 (tk := s.toks + 0)
  have S4 : St ((C, oC0) :: (D, listOf #[] 0) :: (it, lIt l 0) :: Φ) c ρ σ { s with heap := h₁, toks := s.toks + 0 } := S4
  have hCD : D ≠ C := hneC' _ (.head _)
  have hCI : it ≠ C := hneC' _ (.tail _ (.head _))
  have hDI : it ≠ D := hneD _ (.head _)
  have hCΦ : ∀ p ∈ Φ, p.1 ≠ C := fun p hp => hneC' p (.tail _ (.tail _ hp))
  have hDΦ : ∀ p ∈ Φ, p.1 ≠ D := fun p hp => hneD p (.tail _ hp)
  have loop : ∀ s₃ : Shared, s₃ = { s with heap := h₁, toks := s.toks + ([] : List (PySem.Str × Value)).length } →
      codeAny (MM G.w) c.A (.compLoop (.ListComp elt [⟨.Name x px, iter, ifs, 0⟩] scope pos) 0 (.ref it) (.ref D) (compEnvC scope cl C env)) (RR (.ref D) C) s₃ := by
    rintro s₃ rfl
    refine codeAny_compLoop_tests (fun k s' => ∃ i ys us j oC m σ', k = vs.length + 1 - i ∧ i ≤ vs.length ∧ us.toList.length ≤ i ∧ Sm s s' ∧ I i ys σ' ∧ LCg.NsObj oC m ∧ us.toList.map er = ys ∧ St ((C, oC) :: (D, listOf us j) :: (it, lIt l i) :: Φ) c ρ σ' s') ?_ (vs.length + 1)
      ⟨0, [], #[], 0, oC0, _, σ, by omega, Nat.zero_le _, Nat.zero_le _, ⟨rfl, rfl, rfl⟩, h0, hoC0, rfl, S4⟩
    rintro k s' ⟨i, ys, us, j, oC, m, σ', rfl, hi, hul, z, hI, hoC, hus, S'⟩
    have SI : St ((it, lIt l i) :: (C, oC) :: (D, listOf us j) :: Φ) c ρ σ' s' := S'.perm fun p hp => by simp only [List.mem_cons] at hp ⊢; rcases hp with h | h | h | h <;> simp [h]
    have hneI : ∀ p ∈ (C, oC) :: (D, listOf us j) :: Φ, p.1 ≠ it := fun p hp => by
      simp only [List.mem_cons] at hp
      rcases hp with rfl | rfl | hp
      · exact Ne.symm hCI
      · exact Ne.symm hDI
      · exact hne p hp
    obtain ⟨us2, hus2, eus2⟩ := S'.isList (hl _ _ _ hI)
    have hsz2 : us2.size = vs.length := by rw [← eus2, List.length_map, Array.length_toList]
    by_cases hlt : i < vs.length
    · have hvk : vs[i]? = some vs[i] := List.getElem?_eq_getElem hlt
      obtain ⟨v, hv, ev⟩ := map_get eus2 hvk
      refine pyNext_list_item' SI.getF hus2 (by rw [← Array.getElem?_toList]; exact hv) fun h2 ho hs2 => ?_
      have S5 := SI.turnF hneI (fun b o hb e => (hs2.2 b hb).trans e) ho (tk := s'.toks)
      have S6 : St ((C, oC) :: (D, listOf us j) :: (it, lIt l (i + 1)) :: Φ) c ρ σ' { s' with heap := h2 } := S5.perm fun p hp => by simp only [List.mem_cons] at hp ⊢; rcases hp with h | h | h | h <;> simp [h]
      have hneC2 : ∀ p ∈ (D, listOf us j) :: (it, lIt l (i + 1)) :: Φ, p.1 ≠ C := fun p hp => by
        simp only [List.mem_cons] at hp
        rcases hp with rfl | rfl | hp
        · exact hCD
        · exact hCI
        · exact hCΦ p hp
      refine wpAny_assign_Name (wpAny_storeName_local (lookup_relabel_local hx) (hoC.ns S6.getF) (fun h3 hn3 hs3 => ?_) (by simp [compEnvC, relabel, hkind]))
      obtain ⟨oC', heC', hoC'⟩ := LCg.ns_obj hn3
      have S7 := S6.turnF hneC2 (fun b o hb e => (hs3.2 b hb).trans e) heC' (tk := s'.toks + 1)
      have hσC : σ' C = none := by
        obtain ⟨_, _, _, _, _, dx, R⟩ := S7
        exact R.off _ (.head _)
      have S8 := S7.lift (ao := .raw oC') hneC2 rfl rfl
      have T := turn i ys σ' _ hvk hI C oC' _ v hσC hoC' (by simp) ev
      refine wpAny_mono (T.run _ _ _ S8) (fun b s9 ⟨z9, σ9, hb, S9⟩ => ?_) fun _ _ e => e
      cases b with
      | false =>
        simp only [Bool.false_eq_true, if_false]
        obtain ⟨σ10, h10, k10, hI10⟩ := hb.2 rfl
        exact ⟨vs.length + 1 - (i + 1), by omega, i + 1, ys, us, j, oC', _, σ10, rfl, hlt, by omega, z.trans ⟨z9.1, z9.2.1, z9.2.2⟩, hI10, hoC', hus, (S9.mono k10).lower h10⟩
      | true =>
        simp only [if_true]
        refine wpAny_mono ((hb.1 rfl).run _ _ _ S9) (fun y s10 ⟨z10, σ10, hbk, S10⟩ => ?_) fun _ _ e => e
        obtain ⟨σ11, h11, k11, hI11⟩ := hbk
        have S11 := (S10.mono k11).lower h11
        have S12 : St ((D, listOf us j) :: (C, oC') :: (it, lIt l (i + 1)) :: Φ) c ρ σ11 s10 := S11.perm fun p hp => by simp only [List.mem_cons] at hp ⊢; rcases hp with h | h | h | h <;> simp [h]
        have hneD2 : ∀ p ∈ (C, oC') :: (it, lIt l (i + 1)) :: Φ, p.1 ≠ D := fun p hp => by
          simp only [List.mem_cons] at hp
          rcases hp with rfl | rfl | hp
          · exact Ne.symm hCD
          · exact hDI
          · exact hDΦ p hp
        refine append_at S12.getF (fun h13 hs13 ho13 => ?_) (by rw [sizeLine_eq, ← Array.length_toList]; omega)
        have S13 := S12.turnF hneD2 (fun b o hb e => (hs13.2 b hb).trans e) ho13 (tk := s10.toks)
        refine ⟨vs.length + 1 - (i + 1), by omega, i + 1, ys ++ [er y], us.push y, j + 1, oC', _, σ11, rfl, hlt, by rw [Array.toList_push, List.length_append, List.length_singleton]; omega, z.trans ⟨z10.1.trans z9.1, z10.2.1.trans z9.2.1, z10.2.2.trans z9.2.2⟩, hI11, hoC', by rw [Array.toList_push, List.map_append, hus]; rfl, ?_⟩
        exact S13.perm fun p hp => by simp only [List.mem_cons] at hp ⊢; rcases hp with h | h | h | h <;> simp [h]
    · obtain rfl : i = vs.length := Nat.le_antisymm hi (Nat.not_lt.mp hlt)
      refine wpAny_pyNext_list_end rfl ⟨_, SI.getF, rfl, rfl⟩ hus2 (by rw [← hsz2]; simp) fun h' he => ?_
      have S5 := SI.cutF hneI (h' := h') (fun b o hb e => he b o hb e) (tk := s'.toks)
      have S6 : St ((D, listOf us j) :: (C, oC) :: Φ) c ρ σ' { s' with heap := h' } := S5.perm fun p hp => by simp only [List.mem_cons] at hp ⊢; rcases hp with h | h | h <;> simp [h]
      have hneD2 : ∀ p ∈ (C, oC) :: Φ, p.1 ≠ D := fun p hp => by
        simp only [List.mem_cons] at hp
        rcases hp with rfl | hp
        · exact Ne.symm hCD
        · exact hDΦ p hp
      have hσD : σ' D = none := by
        obtain ⟨_, _, _, _, _, dx, R⟩ := S6
        exact R.off _ (.head _)
      have hCL : C ≠ c.L := by
        obtain ⟨_, _, F, Nn, _, dx, R⟩ := S5
        exact (Nn _ (R.fr _ (.head _))).2.1
      exact hRR D C oC m _ σ' ys ⟨z.1, z.2.1, z.2.2⟩ hI hoC hσD hCL hCΦ (S6.lift (ao := .list ys) hneD2 rfl ⟨us, j, rfl, hus⟩)
  exact codeAny_compStart_list (loop _ rfl) (wpAny_pyIter_listiter ⟨_, (S4.perm (Φ' := [(it, lIt l 0)]) (fun p hp => by rw [List.mem_singleton.mp hp]; exact .tail _ (.tail _ (.head _)))).getF, rfl, rfl⟩ (loop _ rfl))

noncomputable def CSrc (G : GP) (c : FC) (ρ : LE) (env : Env) (scope : Scope) (cl : List (PySem.Str × Addr)) (x : PySem.Str) (elt : Expr) (ifs : List Expr) (P : Value → AH → Prop) (v : Value) (σ1 : AH) : Prop :=
  ∃ a vs, ∃ I : Nat → List Value → AH → Prop, v = .ref a ∧ vs.length ≤ 1000 ∧ I 0 [] σ1 ∧ (∀ k ys σ, I k ys σ → σ a = some (.list vs)) ∧ CTurn G c ρ env scope cl x elt ifs vs I ∧
    ∀ σ ys, I vs.length ys σ → ∀ D, σ D = none → P (.ref D) (upd σ D (.list ys))
theorem je_listcomp {elt iter : Expr} {x : PySem.Str} {px : Pos} {ifs : List Expr} {scope : Scope} {cl : List (PySem.Str × Addr)} {pos : Pos}
    (hclos : closureFor scope c.env = pure cl) (hcell : ∀ y ∈ scope.names, y.2 ≠ .cell) (hkind : scope.kind = .function)
    (hnames : ∀ y ∈ scope.names, y.2 = .local → scope.names.lookup y.1 = some .local) (hx : scope.names.lookup x = some .local)
    (h : JE G c ρ σ (eval iter c.env) (CSrc G c ρ c.env scope cl x elt ifs Q))
    (hs : ∀ x, foldedSetIterable iter c.env x = pure x := by intro _; rfl) : JE G c ρ σ (eval (.ListComp elt [⟨.Name x px, iter, ifs, 0⟩] scope pos) c.env) Q := .mk fun Φ s E S => by
  rw [eval_ListComp]
  refine wpAny_comprehension_free (use := none) rfl hs hclos hkind hnames (wpAny_mono (h.run Φ s E S) (fun xv s₁ ⟨z, σ1, h₁, S1⟩ => ?_) fun _ _ e => e)
  obtain ⟨a, vs, I, ev, hz, h0, hl, turn, fin⟩ := h₁
  rw [er_ref ev]
  obtain ⟨us, hus, eus⟩ := S1.isList (hl _ _ _ h0)
  refine wpAny_pyIter_list hus ?_
  obtain ⟨S2, hne⟩ := S1.holdF (lIt a 0)
  refine comp_core hl hz turn hcell hkind hx h0 S2 hne fun D C oC m s' σ' ys z' hI hoC hD hCL hCΦ S' => ?_
  exact ⟨m, hoC.ns S'.getF, fun h'' hs'' => ⟨⟨z'.1.trans z.1, z'.2.1.trans z.2.1, z'.2.2.trans z.2.2⟩, _, fin σ' ys hI D hD, S'.cutF hCΦ (fun b o hb e => (hs''.2 b hb).trans e) (tk := s'.toks)⟩⟩
theorem js_assign_listcomp {elt iter : Expr} {x y : PySem.Str} {px py : Pos} {i : Nat} {ifs : List Expr} {scope : Scope} {cl : List (PySem.Str × Addr)} {pos spos : Pos} (O : c.Ok G n) (l : LocAt c i y)
    (hsw : swapsWith (.ListComp elt [⟨.Name x px, iter, ifs, 0⟩] scope pos) (some (.Name y py)) spos.line c.env = pure true)
    (hclos : closureFor scope c.env = pure cl) (hcell : ∀ y ∈ scope.names, y.2 ≠ .cell) (hkind : scope.kind = .function)
    (hnames : ∀ y ∈ scope.names, y.2 = .local → scope.names.lookup y.1 = some .local) (hx : scope.names.lookup x = some .local)
    (h : JE G c ρ σ (eval iter c.env) (CSrc G c ρ c.env scope cl x elt ifs (fun v σ1 => N (ρ.set i (some v)) σ1)))
    (hs : ∀ x, foldedSetIterable iter c.env x = pure x := by intro _; rfl) : JX G c ρ σ (exec (.Assign [.Name y py] (.ListComp elt [⟨.Name x px, iter, ifs, 0⟩] scope pos) spos) c.env) N R := .mk fun Φ s E S => by
  rw [exec_Assign_Name_used _ _ _ _ hsw]
  refine wpAny_bind (wpAny_standAt (wpAny_bind ?_))
  show wpAny _ c.A (do let _ ← comprehension (.ListComp elt [⟨.Name x px, iter, ifs, 0⟩] scope pos) scope c.env _ (newList []) false (eval iter c.env) (some (assign (.Name y py) c.env))) _ _ s
  refine wpAny_bind (wpAny_mono (wpAny_comprehension_free (use := some (assign (.Name y py) c.env)) (Q := fun _ s' => FlowP Φ c N R s .next s') rfl hs hclos hkind hnames
    (wpAny_mono (h.run Φ s E S) (fun xv s₁ ⟨z, σ1, h₁, S1⟩ => ?_) fun _ _ e => e)) (fun _ s' hq => wpAny_pure (wpAny_pure hq)) fun _ _ e => e)
  obtain ⟨a, vs, I, ev, hz, h0, hl, turn, fin⟩ := h₁
  rw [er_ref ev]
  obtain ⟨us, hus, eus⟩ := S1.isList (hl _ _ _ h0)
  refine wpAny_pyIter_list hus ?_
  obtain ⟨S2, hne⟩ := S1.holdF (lIt a 0)
  refine comp_core hl hz turn hcell hkind hx h0 S2 hne fun D C oC m s' σ' ys z' hI hoC hD hCL hCΦ S' => ?_
  show wpAny _ c.A (assign (.Name y py) c.env (.ref D)) _ _ _
  refine wpAny_assign_Name (j_store O l S' fun s2 z2 S2' => ?_)
  exact ⟨m, hoC.ns S2'.getF, fun h'' hs'' => ⟨⟨z2.1.trans (z'.1.trans z.1), z2.2.1.trans (z'.2.1.trans z.2.1), z2.2.2.trans (z'.2.2.trans z.2.2)⟩, _, _, fin σ' ys hI D hD, S2'.cutF hCΦ (fun b o hb e => (hs''.2 b hb).trans e) (tk := s2.toks)⟩⟩

/-! names in the block -/
theorem je_cloc {scope : Scope} {cl : List (PySem.Str × Addr)} {C : Addr} {oC : Obj} {m : PySem.Str → Option Value} {x : PySem.Str} {p : Pos} {u v : Value} (hC : σ C = some (.raw oC)) (ho : LCg.NsObj oC m) (hm : m x = some u) (eu : er u = v) (h : Q v σ)
    (hx : scope.names.lookup x = some .local) (hk : scope.kind = .function) (hb : (x == dbg) = false) : JE G c ρ σ (eval (.Name x p) (compEnvC scope cl C env)) Q := .mk fun Φ s E S => by
  have S0 := S
  obtain ⟨m', news, F, N, r, R⟩ := S
  obtain ⟨o, hm', e⟩ := R.at1 hC rfl
  have : o = oC := e
  subst this
  refine wpAny_Name (wpAny_loadName_local hk (lookup_relabel_local hx) (ho.ns (N.get hm')) hm ?_) hb
  exact ⟨.rfl' s, σ, by show Q (er u) σ; rw [eu]; exact h, S0⟩
theorem je_ccell {scope : Scope} {cl : List (PySem.Str × Addr)} {C ca : Addr} {x : PySem.Str} {p : Pos} {v : Value} (hc : cl.lookup x = some ca) (hv : σ ca = some (.cell (some v))) (h : Q v σ)
    (hk : scope.kind = .function) (hx : (compEnvC scope cl C env).kindOf x = some .cell) (hb : (x == dbg) = false) : JE G c ρ σ (eval (.Name x p) (compEnvC scope cl C env)) Q := .mk fun Φ s E S => by
  have S0 := S
  obtain ⟨m', news, F, N, r, R⟩ := S
  obtain ⟨o, hm, u, hd, eu⟩ := R.at1 hv rfl
  cases u with
  | none => simp at eu
  | some u =>
    simp only [Option.map_some, Option.some.injEq] at eu
    exact wpAny_Name (wpAny_loadName_cell hk hx hc ⟨o, N.get hm, hd⟩ ⟨.rfl' s, σ, by show Q (er u) σ; rw [eu]; exact h, S0⟩) hb
end
end Mine
end

section
open PySem PySem.W PyProof.Rows PySem.Spec PySem.Calls
namespace Mine
section
variable {G : GP} {c : FC} {env : Env} {ρ : LE} {σ : AH} {n m : Nat} {Q : Value → AH → Prop} {N : LE → AH → Prop} {R : Value → AH → Prop} {Φ : Led} {s : Shared} {i j : Int} {P : Bool → AH → Prop}
theorem small_log2 {y : Int} (h1 : y.natAbs < 2 ^ 64) : y.natAbs.log2 < 9000 := by
  by_cases h0 : y.natAbs = 0
  · rw [h0]; decide +kernel
  · have : y.natAbs.log2 < 64 := (Nat.log2_lt h0).mpr h1
    omega
theorem jb_divp (hj : 0 < j) (hz : j < 2 ^ 64) (h : Q (vi (i / j)) σ) : JB G c ρ σ .FloorDiv (vi i) (vi j) Q :=
  jb_div (by omega) (PyProof.noPylong_of_log2 (small_log2 (by omega))) (by rw [Int.fdiv_eq_ediv_of_nonneg _ (by omega)]; exact h)
theorem jb_modp (hj : 0 < j) (h : Q (vi (i % j)) σ) : JB G c ρ σ .Mod (vi i) (vi j) Q :=
  jb_mod (by omega) (by rw [Int.fmod_eq_emod_of_nonneg _ (by omega)]; exact h)
theorem jb_mulr (hz : j.natAbs < 2 ^ 64) (h : Q (vi (i * j)) σ) : JB G c ρ σ .Mult (vi i) (vi j) Q := jb_mul (.of_right (intBits_le_iff.mpr hz)) h
theorem jb_pow2 (h0 : 0 ≤ j) (h1 : j ≤ 1000) (h : Q (vi (2 ^ j.toNat)) σ) : JB G c ρ σ .Pow (vi 2) (vi j) Q := jb_pow h0 (by omega) (by decide) h
theorem jb_pow10 (h0 : 0 ≤ j) (h1 : j ≤ 1000) (h : Q (vi (10 ^ j.toNat)) σ) : JB G c ρ σ .Pow (vi 10) (vi j) Q := jb_pow h0 (by omega) (by decide) h

/-! or, and with any number of operands, in a test -/
abbrev JAl (G : GP) (c : FC) (env : Env) (ρ : LE) (σ : AH) (op : BoolOp) (es : List Expr) (Q : Bool → AH → Prop) : Prop := J G c ρ σ (allTrue op es env) Q
theorem jt_bool {op : BoolOp} {es : List Expr} {p : Pos} (h : JAl G c env ρ σ op es P) : JT G c env ρ σ (.BoolOp op es p) P := h
theorem jal_or {x : Expr} {es : List Expr} (h : JT G c env ρ σ x (fun b σ1 => (b = true → P true σ1) ∧ (b = false → JAl G c env ρ σ1 .Or es P))) : JAl G c env ρ σ .Or (x :: es) P := by
  refine J.eq (t' := (do
    match BoolOp.Or, ← isTrue x env (eval x env) with
    | .And, false => pure false
    | .Or, true => pure true
    | _, _ => allTrue .Or es env)) rfl (J.bind (J.mono h fun b σ1 h1 => ?_))
  cases b with
  | true => exact J.pure (h1.1 rfl)
  | false => exact h1.2 rfl
theorem jal_and {x : Expr} {es : List Expr} (h : JT G c env ρ σ x (fun b σ1 => (b = true → JAl G c env ρ σ1 .And es P) ∧ (b = false → P false σ1))) : JAl G c env ρ σ .And (x :: es) P := by
  refine J.eq (t' := (do
    match BoolOp.And, ← isTrue x env (eval x env) with
    | .And, false => pure false
    | .Or, true => pure true
    | _, _ => allTrue .And es env)) rfl (J.bind (J.mono h fun b σ1 h1 => ?_))
  cases b with
  | false => exact J.pure (h1.2 rfl)
  | true => exact h1.1 rfl
theorem jal_or0 (h : P false σ) : JAl G c env ρ σ .Or [] P := J.pure h
theorem jal_and0 (h : P true σ) : JAl G c env ρ σ .And [] P := J.pure h
theorem j_tobool {b : Bool} (h : Q (vi (if b then 1 else 0)) σ) : JE G c ρ σ (call (.type "int") [.bool b]) Q := .mk fun Φ s E S => call_int_bool (fin_t (F := fun τ => Q (vi (if b then 1 else 0)) τ) S h)
end
/-! numbers -/
noncomputable def pw (p : Int) : Int := 2 ^ (32 - p).toNat
noncomputable def maskI (p : Int) : Int := 4294967295 - (pw p - 1)
noncomputable def netI (a p : Int) : Int := a / pw p * pw p
theorem pw_nat (p : Int) : pw p = ((2 ^ (32 - p).toNat : Nat) : Int) := by unfold pw; rw [Int.natCast_pow]; rfl
theorem pw_pos (p : Int) : 0 < pw p := by rw [pw_nat]; exact Int.ofNat_lt.mpr (Nat.two_pow_pos _)
theorem pw_le {p : Int} (h : 0 ≤ p) : pw p ≤ 4294967296 := by
  rw [pw_nat]
  have h2 : (32 - p).toNat ≤ 32 := by omega
  exact Int.ofNat_le.mpr (Nat.pow_le_pow_right (by decide) h2)
theorem land_high (x k m : Nat) (hx : x < 2 ^ (k + m)) : x &&& ((2 ^ m - 1) <<< k) = x / 2 ^ k * 2 ^ k := by
  rw [← Nat.shiftRight_eq_div_pow, ← Nat.shiftLeft_eq]
  have h1 : x >>> k < 2 ^ m := by
    rw [Nat.shiftRight_eq_div_pow, Nat.div_lt_iff_lt_mul (Nat.two_pow_pos _), ← Nat.pow_add, Nat.add_comm]; exact hx
  have h2 : (x >>> k) &&& (2 ^ m - 1) = x >>> k := by rw [Nat.and_two_pow_sub_one_eq_mod, Nat.mod_eq_of_lt h1]
  rw [← h2, Nat.shiftLeft_and_distrib]
  apply Nat.eq_of_testBit_eq
  intro i
  rw [Nat.testBit_and, Nat.testBit_and, Nat.testBit_shiftLeft, Nat.testBit_shiftLeft, Nat.testBit_shiftRight]
  by_cases h : k ≤ i
  · rw [show k + (i - k) = i by omega, decide_eq_true h, Bool.true_and, Bool.true_and]
  · rw [decide_eq_false h]; simp
theorem mask_and {a p : Int} (h0 : 0 ≤ a) (h1 : a ≤ 4294967295) (hp : 0 ≤ p) (hq : p ≤ 32) : Builtin.bitAnd a (maskI p) = netI a p := by
  have hm : maskI p = (((2 ^ (32 - (32 - p).toNat) - 1) <<< (32 - p).toNat : Nat) : Int) := by
    unfold maskI
    rw [pw_nat, Nat.shiftLeft_eq, Nat.sub_mul, ← Nat.pow_add, show 32 - (32 - p).toNat + (32 - p).toNat = 32 by omega, Nat.one_mul]
    have : 2 ^ (32 - p).toNat ≤ 2 ^ 32 := Nat.pow_le_pow_right (by decide) (by omega)
    omega
  have hm0 : 0 ≤ maskI p := by rw [hm]; exact Int.natCast_nonneg _
  rw [bitAnd_pp h0 hm0]
  have e : (maskI p).toNat = (2 ^ (32 - (32 - p).toNat) - 1) <<< (32 - p).toNat := by rw [hm]; rfl
  have hz : a.toNat < 2 ^ 32 := by omega
  rw [e, land_high _ _ _ (by rw [show (32 - p).toNat + (32 - (32 - p).toNat) = 32 by omega]; exact hz)]
  unfold netI
  rw [pw_nat]
  have ea : a = (a.toNat : Int) := by omega
  rw [ea]
  push_cast
  rfl
end Mine
namespace Mine
theorem asB {P : Bool → Prop} {q : Bool} (h : P q) : ∃ q', Value.bool q = Value.bool q' ∧ P q' := ⟨q, rfl, h⟩
end Mine
end
local macro_rules | `(tactic| walk_at "JW") => `(tactic| (first | ((with_reducible show Mine.JX _ _ _ _ _ _ _); first | with_reducible refine Mine.js_cons ?_ | with_reducible refine Mine.js_nil ?_ | with_reducible refine Mine.js_ret ?_ | with_reducible refine Mine.js_if ?_ | with_reducible refine Mine.js_ret0 ?_ | ((with_reducible refine' Mine.js_assign ?hO ?hl ?_ ?hs); (case hO => assumption); (case hl => assumption); (case hs => rfl))) | ((with_reducible show Mine.JE _ _ _ _ (eval _ _) _); first | ((with_reducible refine' Mine.je_loc ?hO ?hl ?hv ?_); (case hO => assumption); (case hl => assumption); (case hv => rfl)) | with_reducible refine Mine.je_int ?_ | with_reducible refine Mine.je_bin ?_ | with_reducible refine Mine.je_none ?_ | with_reducible refine Mine.je_bool ?_ | ((with_reducible refine Mine.je_cmp ?_ ?hm); (case hm => rfl)) | ((with_reducible refine' Mine.je_gint ?hO ?hl ?hk ?_); (case hO => assumption); (case hl => assumption); (case hk => k_is)) | with_reducible refine Mine.je_sub ?_ | with_reducible refine Mine.je_tuple ?_ | with_reducible refine Mine.je_list ?_ | with_reducible refine Mine.je_and2 ?_ | with_reducible refine Mine.je_and3 ?_ | with_reducible refine Mine.je_or2 ?_ | with_reducible refine Mine.je_if ?_ | with_reducible refine Mine.je_usub ?_) | ((with_reducible show Mine.JB _ _ _ _ _ _ _ _); first | with_reducible refine Mine.jb_add ?_ | with_reducible refine Mine.jb_sub ?_) | ((with_reducible show Mine.JC _ _ _ _ _ _ _ _); first | with_reducible refine Mine.jc_eq ?_ | with_reducible refine Mine.jc_ne ?_ | with_reducible refine Mine.jc_lt ?_ | with_reducible refine Mine.jc_le ?_ | with_reducible refine Mine.jc_gt ?_ | with_reducible refine Mine.jc_ge ?_ | with_reducible refine Mine.jc_is_none ?_ | with_reducible refine Mine.jc_isnot_none ?_) | with_reducible refine Mine.asB ?_ | ((with_reducible show Mine.JT _ _ _ _ _ _ _); first | ((with_reducible refine Mine.jt_cmp ?_ ?hm); (case hm => rfl)) | with_reducible refine Mine.jt_bool ?_ | with_reducible refine Mine.jt_not ?_) | ((with_reducible show Mine.JAl _ _ _ _ _ _ _ _); first | with_reducible refine Mine.jal_or ?_ | with_reducible refine Mine.jal_and ?_ | with_reducible refine Mine.jal_or0 ?_ | with_reducible refine Mine.jal_and0 ?_) | ((with_reducible show Mine.JA _ _ _ _ _ _ _ _); first | ((with_reducible refine Mine.ja_cons ?_ ?he); (case he => rfl)) | with_reducible refine Mine.ja_nil ?_)))
local macro_rules | `(tactic| walk_at "JWS") => `(tactic| (repeat walk_at "JW"))
section
open PySem PySem.W PyProof.Rows PySem.Spec PySem.Calls
namespace Mine
theorem fillFrag0 : (fun (_ : OpenLaw) (_ : Params → Frag) => True) PySem.Challenge.rw_nu0125_01 Mine.hd.heap_39 := by
  k_fill
  trivial
theorem fld_net (G : GP) : Fld G 113 (S "net") := ⟨by k_is, by k_is, by k_is, by k_is, by k_is, by k_is⟩
theorem fld_prefix (G : GP) : Fld G 113 (S "prefix") := ⟨by k_is, by k_is, by k_is, by k_is, by k_is, by k_is⟩
theorem fld_gateway (G : GP) : Fld G 113 (S "gateway") := ⟨by k_is, by k_is, by k_is, by k_is, by k_is, by k_is⟩
theorem fld_face (G : GP) : Fld G 113 (S "face") := ⟨by k_is, by k_is, by k_is, by k_is, by k_is, by k_is⟩
theorem fld_metric (G : GP) : Fld G 113 (S "metric") := ⟨by k_is, by k_is, by k_is, by k_is, by k_is, by k_is⟩
theorem fld_zero (G : GP) : Fld G 162 (S "zero") := ⟨by k_is, by k_is, by k_is, by k_is, by k_is, by k_is⟩
theorem fld_one (G : GP) : Fld G 162 (S "one") := ⟨by k_is, by k_is, by k_is, by k_is, by k_is, by k_is⟩
theorem fld_routes (G : GP) : Fld G 162 (S "routes") := ⟨by k_is, by k_is, by k_is, by k_is, by k_is, by k_is⟩
theorem fld_root (G : GP) : Fld G 244 (S "root") := ⟨by k_is, by k_is, by k_is, by k_is, by k_is, by k_is⟩
theorem fld_many (G : GP) : Fld G 244 (S "many") := ⟨by k_is, by k_is, by k_is, by k_is, by k_is, by k_is⟩
section
variable {G : GP} {c : FC} {env : Env} {ρ : LE} {σ : AH} {n m : Nat} {Q : Value → AH → Prop}
theorem je_a {C : Addr} {ns : List PySem.Str} (o : Expr) {x : PySem.Str} {p : Pos} (i : Nat) (O : c.Ok G n) (Fd : Fld G C x) (nd : ns.Nodup) (hx : ns[i]? = some x) (h : JE G c ρ σ (eval o env) (fun v σ1 => ∃ a ao vs w, v = .ref a ∧ σ1 a = some ao ∧ shape ao = some ⟨C, ns, vs⟩ ∧ vs[i]? = some w ∧ (∀ i, w ≠ .builtin i) ∧ Q w σ1))
    (he : eval (.Attribute o x p) env = (do
      let ov ← eval o env
      standAt p.atName
      let r ← holding [ov] (getAttr ov x true)
      letTemporaryGo o ov r
      pure r) := by rfl) : JE G c ρ σ (eval (.Attribute o x p) env) Q :=
  je_attr O (J.mono h fun v σ1 ⟨a, ao, vs, w, h1, h2, h3, h4, h5, h6⟩ => ⟨a, ao, ⟨C, ns, vs⟩, w, h1, h2, h3, Fd, nd, hx, h4, h5, h6⟩) he
noncomputable def RtAt (σ : AH) (v : Value) (k : Int → Int → Int → Int → Int → Prop) : Prop := ∃ a n p g f m, v = .ref a ∧ σ a = some (.route n p g f m) ∧ k n p g f m
theorem je_net {o : Expr} {p : Pos} (O : c.Ok G n) (h : JE G c ρ σ (eval o env) (fun v σ1 => RtAt σ1 v fun a _ _ _ _ => Q (vi a) σ1))
    (he : eval (.Attribute o (S "net") p) env = (do let ov ← eval o env; standAt p.atName; let r ← holding [ov] (getAttr ov (S "net") true); letTemporaryGo o ov r; pure r) := by rfl) : JE G c ρ σ (eval (.Attribute o (S "net") p) env) Q :=
  je_a (C := 113) (ns := nRoute) o 0 O (fld_net G) (by decide) rfl (J.mono h fun v σ1 ⟨a, _, _, _, _, _, h1, h2, h3⟩ => ⟨a, _, _, _, h1, h2, rfl, rfl, by simp, h3⟩) he
theorem je_prefix {o : Expr} {p : Pos} (O : c.Ok G n) (h : JE G c ρ σ (eval o env) (fun v σ1 => RtAt σ1 v fun _ a _ _ _ => Q (vi a) σ1))
    (he : eval (.Attribute o (S "prefix") p) env = (do let ov ← eval o env; standAt p.atName; let r ← holding [ov] (getAttr ov (S "prefix") true); letTemporaryGo o ov r; pure r) := by rfl) : JE G c ρ σ (eval (.Attribute o (S "prefix") p) env) Q :=
  je_a (C := 113) (ns := nRoute) o 1 O (fld_prefix G) (by decide) rfl (J.mono h fun v σ1 ⟨a, _, _, _, _, _, h1, h2, h3⟩ => ⟨a, _, _, _, h1, h2, rfl, rfl, by simp, h3⟩) he
theorem je_gateway {o : Expr} {p : Pos} (O : c.Ok G n) (h : JE G c ρ σ (eval o env) (fun v σ1 => RtAt σ1 v fun _ _ a _ _ => Q (vi a) σ1))
    (he : eval (.Attribute o (S "gateway") p) env = (do let ov ← eval o env; standAt p.atName; let r ← holding [ov] (getAttr ov (S "gateway") true); letTemporaryGo o ov r; pure r) := by rfl) : JE G c ρ σ (eval (.Attribute o (S "gateway") p) env) Q :=
  je_a (C := 113) (ns := nRoute) o 2 O (fld_gateway G) (by decide) rfl (J.mono h fun v σ1 ⟨a, _, _, _, _, _, h1, h2, h3⟩ => ⟨a, _, _, _, h1, h2, rfl, rfl, by simp, h3⟩) he
theorem je_face {o : Expr} {p : Pos} (O : c.Ok G n) (h : JE G c ρ σ (eval o env) (fun v σ1 => RtAt σ1 v fun _ _ _ a _ => Q (vi a) σ1))
    (he : eval (.Attribute o (S "face") p) env = (do let ov ← eval o env; standAt p.atName; let r ← holding [ov] (getAttr ov (S "face") true); letTemporaryGo o ov r; pure r) := by rfl) : JE G c ρ σ (eval (.Attribute o (S "face") p) env) Q :=
  je_a (C := 113) (ns := nRoute) o 3 O (fld_face G) (by decide) rfl (J.mono h fun v σ1 ⟨a, _, _, _, _, _, h1, h2, h3⟩ => ⟨a, _, _, _, h1, h2, rfl, rfl, by simp, h3⟩) he
theorem je_metric {o : Expr} {p : Pos} (O : c.Ok G n) (h : JE G c ρ σ (eval o env) (fun v σ1 => RtAt σ1 v fun _ _ _ _ a => Q (vi a) σ1))
    (he : eval (.Attribute o (S "metric") p) env = (do let ov ← eval o env; standAt p.atName; let r ← holding [ov] (getAttr ov (S "metric") true); letTemporaryGo o ov r; pure r) := by rfl) : JE G c ρ σ (eval (.Attribute o (S "metric") p) env) Q :=
  je_a (C := 113) (ns := nRoute) o 4 O (fld_metric G) (by decide) rfl (J.mono h fun v σ1 ⟨a, _, _, _, _, _, h1, h2, h3⟩ => ⟨a, _, _, _, h1, h2, rfl, rfl, by simp, h3⟩) he
/-- a value that no slot hides -/
noncomputable def Plain (v : Value) : Prop := ∀ i, v ≠ .builtin i
theorem Plain.ref {a : Addr} : Plain (.ref a) := fun _ => by simp
theorem Plain.none : Plain .none := fun _ => by simp
noncomputable def BrAt (σ : AH) (v : Value) (k : Value → Value → Value → Prop) : Prop := ∃ a z o l, v = .ref a ∧ σ a = some (.branch z o l) ∧ Plain z ∧ Plain o ∧ Plain l ∧ k z o l
theorem je_zero {o : Expr} {p : Pos} (O : c.Ok G n) (h : JE G c ρ σ (eval o env) (fun v σ1 => BrAt σ1 v fun a _ _ => Q a σ1))
    (he : eval (.Attribute o (S "zero") p) env = (do let ov ← eval o env; standAt p.atName; let r ← holding [ov] (getAttr ov (S "zero") true); letTemporaryGo o ov r; pure r) := by rfl) : JE G c ρ σ (eval (.Attribute o (S "zero") p) env) Q :=
  je_a (C := 162) (ns := nBranch) o 0 O (fld_zero G) (by decide) rfl (J.mono h fun v σ1 ⟨a, _, _, _, h1, h2, k1, k2, k3, h3⟩ => ⟨a, _, _, _, h1, h2, rfl, rfl, k1, h3⟩) he
theorem je_one {o : Expr} {p : Pos} (O : c.Ok G n) (h : JE G c ρ σ (eval o env) (fun v σ1 => BrAt σ1 v fun _ a _ => Q a σ1))
    (he : eval (.Attribute o (S "one") p) env = (do let ov ← eval o env; standAt p.atName; let r ← holding [ov] (getAttr ov (S "one") true); letTemporaryGo o ov r; pure r) := by rfl) : JE G c ρ σ (eval (.Attribute o (S "one") p) env) Q :=
  je_a (C := 162) (ns := nBranch) o 1 O (fld_one G) (by decide) rfl (J.mono h fun v σ1 ⟨a, _, _, _, h1, h2, k1, k2, k3, h3⟩ => ⟨a, _, _, _, h1, h2, rfl, rfl, k2, h3⟩) he
theorem je_routes {o : Expr} {p : Pos} (O : c.Ok G n) (h : JE G c ρ σ (eval o env) (fun v σ1 => BrAt σ1 v fun _ _ a => Q a σ1))
    (he : eval (.Attribute o (S "routes") p) env = (do let ov ← eval o env; standAt p.atName; let r ← holding [ov] (getAttr ov (S "routes") true); letTemporaryGo o ov r; pure r) := by rfl) : JE G c ρ σ (eval (.Attribute o (S "routes") p) env) Q :=
  je_a (C := 162) (ns := nBranch) o 2 O (fld_routes G) (by decide) rfl (J.mono h fun v σ1 ⟨a, _, _, _, h1, h2, k1, k2, k3, h3⟩ => ⟨a, _, _, _, h1, h2, rfl, rfl, k3, h3⟩) he
noncomputable def RsAt (σ : AH) (v : Value) (k : Value → Int → Prop) : Prop := ∃ a r m, v = .ref a ∧ σ a = some (.routes r m) ∧ Plain r ∧ k r m
theorem je_root {o : Expr} {p : Pos} (O : c.Ok G n) (h : JE G c ρ σ (eval o env) (fun v σ1 => RsAt σ1 v fun a _ => Q a σ1))
    (he : eval (.Attribute o (S "root") p) env = (do let ov ← eval o env; standAt p.atName; let r ← holding [ov] (getAttr ov (S "root") true); letTemporaryGo o ov r; pure r) := by rfl) : JE G c ρ σ (eval (.Attribute o (S "root") p) env) Q :=
  je_a (C := 244) (ns := nRoutes) o 0 O (fld_root G) (by decide) rfl (J.mono h fun v σ1 ⟨a, _, _, h1, h2, k1, h3⟩ => ⟨a, _, _, _, h1, h2, rfl, rfl, k1, h3⟩) he
theorem je_many {o : Expr} {p : Pos} (O : c.Ok G n) (h : JE G c ρ σ (eval o env) (fun v σ1 => RsAt σ1 v fun _ a => Q (vi a) σ1))
    (he : eval (.Attribute o (S "many") p) env = (do let ov ← eval o env; standAt p.atName; let r ← holding [ov] (getAttr ov (S "many") true); letTemporaryGo o ov r; pure r) := by rfl) : JE G c ρ σ (eval (.Attribute o (S "many") p) env) Q :=
  je_a (C := 244) (ns := nRoutes) o 1 O (fld_many G) (by decide) rfl (J.mono h fun v σ1 ⟨a, _, _, h1, h2, k1, h3⟩ => ⟨a, _, _, _, h1, h2, rfl, rfl, by simp, h3⟩) he
end
end Mine
end

section
open PySem PySem.W PyProof.Rows PySem.Spec PySem.Calls
namespace Mine

theorem t_mask_of (G : GP) : TopFn G (S "mask_of") 60 := ⟨by k_is, by k_is⟩
theorem t_net_of (G : GP) : TopFn G (S "net_of") 67 := ⟨by k_is, by k_is⟩
theorem t_is_in (G : GP) : TopFn G (S "is_in") 74 := ⟨by k_is, by k_is⟩
theorem t_is_broadcast (G : GP) : TopFn G (S "is_broadcast") 81 := ⟨by k_is, by k_is⟩
theorem t_bit_at (G : GP) : TopFn G (S "bit_at") 173 := ⟨by k_is, by k_is⟩
noncomputable def maskS : SpecT := fun vs σ Q => ∃ p : Int, vs = [vi p] ∧ 0 ≤ p ∧ p ≤ 32 ∧ Q (vi (maskI p)) σ
noncomputable def netS : SpecT := fun vs σ Q => ∃ a p : Int, vs = [vi a, vi p] ∧ 0 ≤ a ∧ a ≤ 4294967295 ∧ 0 ≤ p ∧ p ≤ 32 ∧ Q (vi (netI a p)) σ
noncomputable def inS : SpecT := fun vs σ Q => ∃ a b p : Int, vs = [vi a, vi b, vi p] ∧ 0 ≤ a ∧ a ≤ 4294967295 ∧ 0 ≤ b ∧ b ≤ 4294967295 ∧ 0 ≤ p ∧ p ≤ 32 ∧ Q (.bool (netI a p == netI b p)) σ
noncomputable def bcI (a b p : Int) : Bool := if a = 4294967295 then true else if 31 ≤ p then false else a == netI b p + (4294967295 - maskI p)
noncomputable def bcS : SpecT := fun vs σ Q => ∃ a b p : Int, vs = [vi a, vi b, vi p] ∧ 0 ≤ b ∧ b ≤ 4294967295 ∧ 0 ≤ p ∧ p ≤ 32 ∧ Q (.bool (bcI a b p)) σ
noncomputable def bitI (a k : Int) : Int := a / 2 ^ (31 - k).toNat % 2
noncomputable def bitS : SpecT := fun vs σ Q => ∃ a k : Int, vs = [vi a, vi k] ∧ 0 ≤ k ∧ k ≤ 31 ∧ Q (vi (bitI a k)) σ
theorem two_pos (k : Nat) : (0 : Int) < 2 ^ k := by
  have := Nat.two_pow_pos k
  have e : (2 : Int) ^ k = ((2 ^ k : Nat) : Int) := by rw [Int.natCast_pow]; rfl
  rw [e]; exact Int.ofNat_lt.mpr this
theorem two_lt {k : Nat} (h : k ≤ 40) : (2 : Int) ^ k < 2 ^ 64 := by
  have e : ∀ k : Nat, (2 : Int) ^ k = ((2 ^ k : Nat) : Int) := fun k => by rw [Int.natCast_pow]; rfl
  rw [e, e]; exact Int.ofNat_lt.mpr (Nat.pow_lt_pow_right (by decide) (by omega))
theorem v_mask_of (G : GP) : Valid G (.ref 60) 1 maskS := by
  refine valid_def (n := 0) [S "prefix"] [S "prefix"] [S "BITS", S "RouteError", S "ALL"] 1 (by k_is) (by k_is) ?_ ?_ rfl rfl rfl ?_ ?_ ?_ ?_ rfl rfl ?_
  · rintro vs σ Q ⟨p, rfl, h0, h1, hQ⟩; rfl
  · intro us hl
    rcases us with _ | ⟨u0, _ | ⟨u1, us⟩⟩ <;> first | (exfalso; simp at hl; done) | rfl
  · decide +kernel
  · decide +kernel
  · decide +kernel
  · decide +kernel
  · rintro c O hnm hgl vs σ Q ⟨p, rfl, h0, h1, hQ⟩
    show JX G c _ _ (execs (_ :: _) c.env) _ _
    have l0 : LocAt c 0 (S "prefix") := by unfold LocAt; rw [hnm]; rfl
    have g0 : GlAt c (S "BITS") := by unfold GlAt; rw [hgl]; simp
    have g1 : GlAt c (S "RouteError") := by unfold GlAt; rw [hgl]; simp
    have g2 : GlAt c (S "ALL") := by unfold GlAt; rw [hgl]; simp
    walk_at "JWS"
    refine ⟨fun hb => ?_, fun hb => ?_⟩
    · simp only [decide_eq_true_eq] at hb; omega
    walk_at "JWS"
    refine ⟨fun hb => ?_, fun hb => ?_⟩
    · simp only [decide_eq_true_eq] at hb; omega
    walk_at "JWS"
    refine ⟨fun hb => (by cases hb), fun hb => ?_⟩
    walk_at "JWS"
    refine jb_pow2 (by omega) (by omega) ?_
    walk_at "JWS"
    exact hQ
theorem v_net_of (G : GP) : Valid G (.ref 67) 2 netS := by
  refine valid_def (n := 1) [S "address", S "prefix"] [S "address", S "prefix"] [S "mask_of"] 2 (by k_is) (by k_is) ?_ ?_ rfl rfl rfl ?_ ?_ ?_ ?_ rfl rfl ?_
  · rintro vs σ Q ⟨a, p, rfl, h0, h1, h2, h3, hQ⟩; rfl
  · intro us hl
    rcases us with _ | ⟨u0, _ | ⟨u1, _ | ⟨u2, us⟩⟩⟩ <;> first | (exfalso; simp at hl; done) | rfl
  · decide +kernel
  · decide +kernel
  · decide +kernel
  · decide +kernel
  · rintro c O hnm hgl vs σ Q ⟨a, p, rfl, h0, h1, h2, h3, hQ⟩
    show JX G c _ _ (execs (_ :: _) c.env) _ _
    have l0 : LocAt c 0 (S "address") := by unfold LocAt; rw [hnm]; rfl
    have l1 : LocAt c 1 (S "prefix") := by unfold LocAt; rw [hnm]; rfl
    have g0 : GlAt c (S "mask_of") := by unfold GlAt; rw [hgl]; simp
    walk_at "JWS"
    refine je_call O g0 (t_mask_of G) (v_mask_of G) (by decide) ?_
    walk_at "JWS"
    refine ⟨p, rfl, h2, h3, ?_⟩
    refine jb_and ?_
    rw [mask_and h0 h1 h2 h3]
    exact hQ
theorem v_is_in (G : GP) : Valid G (.ref 74) 3 inS := by
  refine valid_def (n := 2) [S "address", S "net", S "prefix"] [S "address", S "net", S "prefix"] [S "net_of"] 3 (by k_is) (by k_is) ?_ ?_ rfl rfl rfl ?_ ?_ ?_ ?_ rfl rfl ?_
  · rintro vs σ Q ⟨a, b, p, rfl, h0, h1, h2, h3, h4, h5, hQ⟩; rfl
  · intro us hl
    rcases us with _ | ⟨u0, _ | ⟨u1, _ | ⟨u2, _ | ⟨u3, us⟩⟩⟩⟩ <;> first | (exfalso; simp at hl; done) | rfl
  · decide +kernel
  · decide +kernel
  · decide +kernel
  · decide +kernel
  · rintro c O hnm hgl vs σ Q ⟨a, b, p, rfl, h0, h1, h2, h3, h4, h5, hQ⟩
    show JX G c _ _ (execs (_ :: _) c.env) _ _
    have l0 : LocAt c 0 (S "address") := by unfold LocAt; rw [hnm]; rfl
    have l1 : LocAt c 1 (S "net") := by unfold LocAt; rw [hnm]; rfl
    have l2 : LocAt c 2 (S "prefix") := by unfold LocAt; rw [hnm]; rfl
    have g0 : GlAt c (S "net_of") := by unfold GlAt; rw [hgl]; simp
    walk_at "JWS"
    refine je_call O g0 (t_net_of G) (v_net_of G) (by decide) ?_
    walk_at "JWS"
    refine ⟨a, p, rfl, h0, h1, h4, h5, ?_⟩
    refine je_call O g0 (t_net_of G) (v_net_of G) (by decide) ?_
    walk_at "JWS"
    refine ⟨b, p, rfl, h2, h3, h4, h5, ?_⟩
    walk_at "JWS"
    exact hQ
theorem v_is_broadcast (G : GP) : Valid G (.ref 81) 3 bcS := by
  refine valid_def (n := 2) [S "address", S "net", S "prefix"] [S "address", S "net", S "prefix"] [S "ALL", S "BITS", S "net_of", S "mask_of"] 3 (by k_is) (by k_is) ?_ ?_ rfl rfl rfl ?_ ?_ ?_ ?_ rfl rfl ?_
  · rintro vs σ Q ⟨a, b, p, rfl, h2, h3, h4, h5, hQ⟩; rfl
  · intro us hl
    rcases us with _ | ⟨u0, _ | ⟨u1, _ | ⟨u2, _ | ⟨u3, us⟩⟩⟩⟩ <;> first | (exfalso; simp at hl; done) | rfl
  · decide +kernel
  · decide +kernel
  · decide +kernel
  · decide +kernel
  · rintro c O hnm hgl vs σ Q ⟨a, b, p, rfl, h2, h3, h4, h5, hQ⟩
    show JX G c _ _ (execs (_ :: _) c.env) _ _
    have l0 : LocAt c 0 (S "address") := by unfold LocAt; rw [hnm]; rfl
    have l1 : LocAt c 1 (S "net") := by unfold LocAt; rw [hnm]; rfl
    have l2 : LocAt c 2 (S "prefix") := by unfold LocAt; rw [hnm]; rfl
    have g0 : GlAt c (S "ALL") := by unfold GlAt; rw [hgl]; simp
    have g1 : GlAt c (S "BITS") := by unfold GlAt; rw [hgl]; simp
    have g2 : GlAt c (S "net_of") := by unfold GlAt; rw [hgl]; simp
    have g3 : GlAt c (S "mask_of") := by unfold GlAt; rw [hgl]; simp
    walk_at "JWS"
    refine ⟨fun hb => ?_, fun hb => ?_⟩
    · walk_at "JWS"
      rw [bcI, if_pos (by simpa using hb)] at hQ; exact hQ
    have hb' : ¬ a = 4294967295 := by simpa using hb
    rw [bcI, if_neg hb'] at hQ
    walk_at "JWS"
    refine ⟨fun hc => ?_, fun hc => ?_⟩
    · walk_at "JWS"
      rw [if_pos (by simpa using hc)] at hQ; exact hQ
    have hc' : ¬ 31 ≤ p := by simpa using hc
    rw [if_neg hc'] at hQ
    walk_at "JWS"
    refine je_call O g2 (t_net_of G) (v_net_of G) (by decide) ?_
    walk_at "JWS"
    refine ⟨b, p, rfl, h2, h3, h4, h5, ?_⟩
    walk_at "JWS"
    refine je_call O g3 (t_mask_of G) (v_mask_of G) (by decide) ?_
    walk_at "JWS"
    refine ⟨p, rfl, h4, h5, ?_⟩
    walk_at "JWS"
    exact hQ
theorem v_bit_at (G : GP) : Valid G (.ref 173) 1 bitS := by
  refine valid_def (n := 0) [S "address", S "place"] [S "address", S "place"] [S "BITS"] 2 (by k_is) (by k_is) ?_ ?_ rfl rfl rfl ?_ ?_ ?_ ?_ rfl rfl ?_
  · rintro vs σ Q ⟨a, k, rfl, h0, h1, hQ⟩; rfl
  · intro us hl
    rcases us with _ | ⟨u0, _ | ⟨u1, _ | ⟨u2, us⟩⟩⟩ <;> first | (exfalso; simp at hl; done) | rfl
  · decide +kernel
  · decide +kernel
  · decide +kernel
  · decide +kernel
  · rintro c O hnm hgl vs σ Q ⟨a, k, rfl, h0, h1, hQ⟩
    show JX G c _ _ (execs (_ :: _) c.env) _ _
    have l0 : LocAt c 0 (S "address") := by unfold LocAt; rw [hnm]; rfl
    have l1 : LocAt c 1 (S "place") := by unfold LocAt; rw [hnm]; rfl
    have g0 : GlAt c (S "BITS") := by unfold GlAt; rw [hgl]; simp
    walk_at "JWS"
    refine jb_pow2 (by omega) (by omega) ?_
    refine jb_divp (two_pos _) (two_lt (by omega)) ?_
    walk_at "JWS"
    refine jb_modp (by decide) ?_
    unfold bitI at hQ
    rw [show (31 : Int) - k = 32 - 1 - k by omega] at hQ
    exact hQ
end Mine
end

section
open PySem PySem.W PyProof.Rows PySem.Spec PySem.Calls
namespace Mine

theorem upd_upd {σ : AH} {a : Addr} {o o' : AO} : upd (upd σ a o) a o' = upd σ a o' := funext fun b => by
  unfold upd; by_cases h : b = a <;> simp [h]
theorem upd_comm {σ : AH} {a b : Addr} {o o' : AO} (h : a ≠ b) : upd (upd σ a o) b o' = upd (upd σ b o') a o := funext fun x => by
  unfold upd
  by_cases h1 : x = b
  · subst h1; simp [Ne.symm h]
  · simp [h1]
structure Row where
  n : Int
  p : Int
  g : Int
  f : Int
  m : Int
  deriving DecidableEq
noncomputable def Row.ao (r : Row) : AO := .route r.n r.p r.g r.f r.m
noncomputable def Row.is (r : Row) : List Int := [r.n, r.p, r.g, r.f, r.m]
noncomputable def Row.tup (r : Row) : AO := .tup (r.is.map vi)
theorem t_Route (G : GP) : TopFn G (S "Route") 113 := ⟨by k_is, by k_is⟩
theorem t_Branch (G : GP) : TopFn G (S "Branch") 162 := ⟨by k_is, by k_is⟩
theorem t_Routes (G : GP) : TopFn G (S "Routes") 244 := ⟨by k_is, by k_is⟩
theorem m_row (G : GP) : Meth G 113 nRoute (S "row") 110 := ⟨by k_is, by k_is, by k_is, by k_is, by decide⟩
theorem m_child (G : GP) : Meth G 162 nBranch (S "child") 138 := ⟨by k_is, by k_is, by k_is, by k_is, by decide⟩
theorem m_set_child (G : GP) : Meth G 162 nBranch (S "set_child") 145 := ⟨by k_is, by k_is, by k_is, by k_is, by decide⟩
theorem m_is_bare (G : GP) : Meth G 162 nBranch (S "is_bare") 152 := ⟨by k_is, by k_is, by k_is, by k_is, by decide⟩
theorem m_best (G : GP) : Meth G 162 nBranch (S "best") 159 := ⟨by k_is, by k_is, by k_is, by k_is, by decide⟩
section
variable {G : GP} {c : FC} {env : Env} {ρ : LE} {σ : AH} {n m : Nat} {Q : Value → AH → Prop} {N : LE → AH → Prop} {R : Value → AH → Prop}
theorem JE.shrink {t : Sem Value} (h : JE G c ρ σ t (fun v σ1 => ∃ τ, Sub τ σ1 ∧ Q v τ)) : JE G c ρ σ t Q := J.shrink h
theorem js_set {o e : Expr} {x : PySem.Str} {p p' : Pos} {C : Addr} (O : c.Ok G n) (Fd : Fld G C x) (h : JE G c ρ σ (eval e c.env) (fun v σ1 => JE G c ρ σ1 (eval o c.env) (fun w σ2 => ∃ a ao ao' ns vs ns' vs', w = .ref a ∧ σ2 a = some ao ∧ shape ao = some ⟨C, ns, vs⟩ ∧ shape ao' = some ⟨C, ns', vs'⟩ ∧ SetF x v ns vs ns' vs' ∧ ns.length ≤ 100 ∧ N ρ (upd σ2 a ao'))))
    (hs : swapsWith e (some (.Attribute o x p')) p.line c.env = pure false := by rfl) : JX G c ρ σ (exec (.Assign [.Attribute o x p'] e p) c.env) N R :=
  js_setattr O (J.mono h fun v σ1 h1 => J.mono h1 fun w σ2 ⟨a, ao, ao', ns, vs, ns', vs', k1, k2, k3, k4, k5, k6, k7⟩ => ⟨a, ao, ao', ⟨C, ns, vs⟩, ⟨C, ns', vs'⟩, k1, k2, k3, k4, rfl, Fd, k5, k6, k7⟩) hs
end
noncomputable def routeInitS : SpecT := fun vs σ Q => ∃ (x : Addr) (n p g f m : Int), vs = [.ref x, vi n, vi p, vi g, vi f, vi m] ∧ σ x = some (.part 113 [] []) ∧ Q .none (upd σ x (.route n p g f m))
noncomputable def routeS : SpecT := fun vs σ Q => ∃ (n p g f m : Int), vs = [vi n, vi p, vi g, vi f, vi m] ∧ ∀ x, σ x = none → Q (.ref x) (upd σ x (.route n p g f m))
noncomputable def rowS : SpecT := fun vs σ Q => ∃ (x : Addr) (n p g f m : Int), vs = [.ref x] ∧ σ x = some (.route n p g f m) ∧ ∀ t, σ t = none → Q (.ref t) (upd σ t (.tup [vi n, vi p, vi g, vi f, vi m]))
noncomputable def branchInitS : SpecT := fun vs σ Q => ∃ (x : Addr), vs = [.ref x] ∧ σ x = some (.part 162 [] []) ∧ ∀ l, σ l = none → Q .none (upd (upd σ l (.list [])) x (.branch .none .none (.ref l)))
noncomputable def branchS : SpecT := fun vs σ Q => vs = [] ∧ ∀ x l, σ x = none → σ l = none → l ≠ x → Q (.ref x) (upd (upd σ l (.list [])) x (.branch .none .none (.ref l)))
noncomputable def childS : SpecT := fun vs σ Q => ∃ (x : Addr) (b : Int) (z o l : Value), vs = [.ref x, vi b] ∧ σ x = some (.branch z o l) ∧ Plain z ∧ Plain o ∧ Plain l ∧ Q (if b = 0 then z else o) σ
noncomputable def setChildS : SpecT := fun vs σ Q => ∃ (x : Addr) (b : Int) (v z o l : Value), vs = [.ref x, vi b, v] ∧ σ x = some (.branch z o l) ∧ Q .none (upd σ x (.branch (if b = 0 then v else z) (if b = 0 then o else v) l))
noncomputable def isBareS : SpecT := fun vs σ Q => ∃ (x l : Addr) (z o : Value) (rs : List Value), vs = [.ref x] ∧ σ x = some (.branch z o (.ref l)) ∧ Plain z ∧ Plain o ∧ σ l = some (.list rs) ∧ Q (.bool (rs.isEmpty && (z == .none) && (o == .none))) σ
noncomputable def optV : Option (Addr × Row) → Value
  | none => .none
  | some q => .ref q.1
noncomputable def better (b : Option (Addr × Row)) (q : Addr × Row) : Option (Addr × Row) := match b with
  | none => some q
  | some r => if q.2.m < r.2.m then some q else some r
noncomputable def bestOf (rs : List (Addr × Row)) : Option (Addr × Row) := rs.foldl better none
noncomputable def RtsAt (σ : AH) (rs : List (Addr × Row)) : Prop := ∀ q ∈ rs, σ q.1 = some q.2.ao
noncomputable def bestS : SpecT := fun vs σ Q => ∃ (x l : Addr) (z o : Value) (rs : List (Addr × Row)), vs = [.ref x] ∧ σ x = some (.branch z o (.ref l)) ∧ Plain z ∧ Plain o ∧ σ l = some (.list (rs.map fun q => .ref q.1)) ∧ rs.length ≤ 1000 ∧ RtsAt σ rs ∧ Q (optV (bestOf rs)) σ
theorem v_Route_init (G : GP) : Valid G (.ref 96) 1 routeInitS := by
  refine valid_def' (n := 0) [S "self", S "net", S "prefix", S "gateway", S "face", S "metric"] [S "self", S "net", S "prefix", S "gateway", S "face", S "metric"] [] 6 (by k_is) (by k_is) ?_ ?_ rfl rfl rfl ?_ ?_ ?_ ?_ rfl rfl ?_
  · rintro vs σ Q ⟨x, n, p, g, f, m, rfl, h0, hQ⟩; rfl
  · intro us hl s X
    rcases us with _ | ⟨u0, _ | ⟨u1, _ | ⟨u2, _ | ⟨u3, _ | ⟨u4, _ | ⟨u5, _ | ⟨u6, us⟩⟩⟩⟩⟩⟩⟩ <;> first | (exfalso; simp at hl; done) | exact binds_K X rfl (by k_is) rfl rfl rfl
  · decide +kernel
  · decide +kernel
  · decide +kernel
  · decide +kernel
  · rintro c O hnm hgl vs σ Q ⟨x, n, p, g, f, m, rfl, h0, hQ⟩
    show JX G c _ _ (execs (_ :: _) c.env) _ _
    have l0 : LocAt c 0 (S "self") := by unfold LocAt; rw [hnm]; rfl
    have l1 : LocAt c 1 (S "net") := by unfold LocAt; rw [hnm]; rfl
    have l2 : LocAt c 2 (S "prefix") := by unfold LocAt; rw [hnm]; rfl
    have l3 : LocAt c 3 (S "gateway") := by unfold LocAt; rw [hnm]; rfl
    have l4 : LocAt c 4 (S "face") := by unfold LocAt; rw [hnm]; rfl
    have l5 : LocAt c 5 (S "metric") := by unfold LocAt; rw [hnm]; rfl
    refine js_cons (js_set O (fld_net G) ?_)
    walk_at "JWS"
    refine ⟨x, _, .part 113 [S "net"] [vi n], _, _, _, _, rfl, h0, rfl, rfl, .new, by decide, ?_⟩
    refine js_cons (js_set O (fld_prefix G) ?_)
    walk_at "JWS"
    refine ⟨x, _, .part 113 [S "net", S "prefix"] [vi n, vi p], _, _, _, _, rfl, upd_self, rfl, rfl, .on (by decide) (.new), by decide, ?_⟩
    refine js_cons (js_set O (fld_gateway G) ?_)
    walk_at "JWS"
    refine ⟨x, _, .part 113 [S "net", S "prefix", S "gateway"] [vi n, vi p, vi g], _, _, _, _, rfl, upd_self, rfl, rfl, .on (by decide) (.on (by decide) (.new)), by decide, ?_⟩
    refine js_cons (js_set O (fld_face G) ?_)
    walk_at "JWS"
    refine ⟨x, _, .part 113 [S "net", S "prefix", S "gateway", S "face"] [vi n, vi p, vi g, vi f], _, _, _, _, rfl, upd_self, rfl, rfl, .on (by decide) (.on (by decide) (.on (by decide) (.new))), by decide, ?_⟩
    refine js_cons (js_set O (fld_metric G) ?_)
    walk_at "JWS"
    refine ⟨x, _, .route n p g f m, _, _, _, _, rfl, upd_self, rfl, rfl, .on (by decide) (.on (by decide) (.on (by decide) (.on (by decide) (.new)))), by decide, ?_⟩
    refine js_nil ?_
    simp only [upd_upd]
    exact hQ

theorem v_Route (G : GP) : Valid G (.ref 113) 2 routeS := by
  refine valid_cls (v_Route_init G) (by k_is) (by k_is) (by k_is) ?_
  rintro vs σ Q ⟨n, p, g, f, m, rfl, hQ⟩ x hx
  refine ⟨x, n, p, g, f, m, rfl, upd_self, rfl, ?_⟩
  rw [upd_upd]; exact hQ x hx
theorem v_row (G : GP) : Valid G (.ref 110) 1 rowS := by
  refine valid_def (n := 0) [S "self"] [S "self"] [] 1 (by k_is) (by k_is) ?_ ?_ rfl rfl rfl ?_ ?_ ?_ ?_ rfl rfl ?_
  · rintro vs σ Q ⟨x, n, p, g, f, m, rfl, h0, hQ⟩; rfl
  · intro us hl
    rcases us with _ | ⟨u0, _ | ⟨u1, us⟩⟩ <;> first | (exfalso; simp at hl; done) | rfl
  · decide +kernel
  · decide +kernel
  · decide +kernel
  · decide +kernel
  · rintro c O hnm hgl vs σ Q ⟨x, n, p, g, f, m, rfl, h0, hQ⟩
    show JX G c _ _ (execs (_ :: _) c.env) _ _
    have l0 : LocAt c 0 (S "self") := by unfold LocAt; rw [hnm]; rfl
    walk_at "JWS"
    refine je_net O ?_
    walk_at "JWS"
    refine ⟨x, _, _, _, _, _, rfl, h0, ?_⟩
    walk_at "JWS"
    refine je_prefix O ?_
    walk_at "JWS"
    refine ⟨x, _, _, _, _, _, rfl, h0, ?_⟩
    walk_at "JWS"
    refine je_gateway O ?_
    walk_at "JWS"
    refine ⟨x, _, _, _, _, _, rfl, h0, ?_⟩
    walk_at "JWS"
    refine je_face O ?_
    walk_at "JWS"
    refine ⟨x, _, _, _, _, _, rfl, h0, ?_⟩
    walk_at "JWS"
    refine je_metric O ?_
    walk_at "JWS"
    refine ⟨x, _, _, _, _, _, rfl, h0, ?_⟩
    walk_at "JWS"
    exact ⟨by simp, hQ⟩
theorem v_Branch_init (G : GP) : Valid G (.ref 131) 1 branchInitS := by
  refine valid_def (n := 0) [S "self"] [S "self"] [] 1 (by k_is) (by k_is) ?_ ?_ rfl rfl rfl ?_ ?_ ?_ ?_ rfl rfl ?_
  · rintro vs σ Q ⟨x, rfl, h0, hQ⟩; rfl
  · intro us hl
    rcases us with _ | ⟨u0, _ | ⟨u1, us⟩⟩ <;> first | (exfalso; simp at hl; done) | rfl
  · decide +kernel
  · decide +kernel
  · decide +kernel
  · decide +kernel
  · rintro c O hnm hgl vs σ Q ⟨x, rfl, h0, hQ⟩
    show JX G c _ _ (execs (_ :: _) c.env) _ _
    have l0 : LocAt c 0 (S "self") := by unfold LocAt; rw [hnm]; rfl
    refine js_cons (js_set O (fld_zero G) ?_)
    walk_at "JWS"
    refine ⟨x, _, .part 162 [S "zero"] [.none], _, _, _, _, rfl, h0, rfl, rfl, .new, by decide, ?_⟩
    refine js_cons (js_set O (fld_one G) ?_)
    walk_at "JWS"
    refine ⟨x, _, .part 162 [S "zero", S "one"] [.none, .none], _, _, _, _, rfl, upd_self, rfl, rfl, .on (by decide) .new, by decide, ?_⟩
    refine js_cons (js_set O (fld_routes G) ?_)
    walk_at "JWS"
    refine ⟨by decide, fun l hl => ?_⟩
    have hlx : l ≠ x := by rintro rfl; rw [upd_self] at hl; cases hl
    walk_at "JWS"
    refine ⟨x, _, .branch .none .none (.ref l), _, _, _, _, rfl, (by rw [upd_other (Ne.symm hlx)]; exact upd_self), rfl, rfl, .on (by decide) (.on (by decide) .new), by decide, ?_⟩
    refine js_nil ?_
    rw [upd_other hlx, upd_other hlx] at hl
    rw [upd_upd, upd_comm (Ne.symm hlx), upd_upd]
    exact hQ l hl

theorem v_Branch (G : GP) : Valid G (.ref 162) 2 branchS := by
  refine valid_cls (v_Branch_init G) (by k_is) (by k_is) (by k_is) ?_
  rintro vs σ Q ⟨rfl, hQ⟩ x hx
  refine ⟨x, rfl, upd_self, fun l hl => ⟨rfl, ?_⟩⟩
  have hlx : l ≠ x := by rintro rfl; rw [upd_self] at hl; cases hl
  rw [upd_other hlx] at hl
  rw [upd_comm (Ne.symm hlx), upd_upd]
  exact hQ x l hx hl hlx
theorem v_child (G : GP) : Valid G (.ref 138) 1 childS := by
  refine valid_def (n := 0) [S "self", S "bit"] [S "self", S "bit"] [] 2 (by k_is) (by k_is) ?_ ?_ rfl rfl rfl ?_ ?_ ?_ ?_ rfl rfl ?_
  · rintro vs σ Q ⟨x, b, z, o, l, rfl, h0, k1, k2, k3, hQ⟩; rfl
  · intro us hl
    rcases us with _ | ⟨u0, _ | ⟨u1, _ | ⟨u2, us⟩⟩⟩ <;> first | (exfalso; simp at hl; done) | rfl
  · decide +kernel
  · decide +kernel
  · decide +kernel
  · decide +kernel
  · rintro c O hnm hgl vs σ Q ⟨x, b, z, o, l, rfl, h0, k1, k2, k3, hQ⟩
    show JX G c _ _ (execs (_ :: _) c.env) _ _
    have l0 : LocAt c 0 (S "self") := by unfold LocAt; rw [hnm]; rfl
    have l1 : LocAt c 1 (S "bit") := by unfold LocAt; rw [hnm]; rfl
    walk_at "JWS"
    refine ⟨fun hb => ?_, fun hb => ?_⟩
    · walk_at "JWS"
      refine je_zero O ?_
      walk_at "JWS"
      refine ⟨x, _, _, _, rfl, h0, k1, k2, k3, ?_⟩
      rw [if_pos (by simpa using hb)] at hQ; exact hQ
    · walk_at "JWS"
      refine je_one O ?_
      walk_at "JWS"
      refine ⟨x, _, _, _, rfl, h0, k1, k2, k3, ?_⟩
      rw [if_neg (by simpa using hb)] at hQ; exact hQ
theorem v_set_child (G : GP) : Valid G (.ref 145) 1 setChildS := by
  refine valid_def (n := 0) [S "self", S "bit", S "branch"] [S "self", S "bit", S "branch"] [] 3 (by k_is) (by k_is) ?_ ?_ rfl rfl rfl ?_ ?_ ?_ ?_ rfl rfl ?_
  · rintro vs σ Q ⟨x, b, v, z, o, l, rfl, h0, hQ⟩; rfl
  · intro us hl
    rcases us with _ | ⟨u0, _ | ⟨u1, _ | ⟨u2, _ | ⟨u3, us⟩⟩⟩⟩ <;> first | (exfalso; simp at hl; done) | rfl
  · decide +kernel
  · decide +kernel
  · decide +kernel
  · decide +kernel
  · rintro c O hnm hgl vs σ Q ⟨x, b, v, z, o, l, rfl, h0, hQ⟩
    show JX G c _ _ (execs (_ :: _) c.env) _ _
    have l0 : LocAt c 0 (S "self") := by unfold LocAt; rw [hnm]; rfl
    have l1 : LocAt c 1 (S "bit") := by unfold LocAt; rw [hnm]; rfl
    have l2 : LocAt c 2 (S "branch") := by unfold LocAt; rw [hnm]; rfl
    walk_at "JWS"
    refine ⟨fun hb => ?_, fun hb => ?_⟩
    · have hb' : b = 0 := by simpa using hb
      rw [if_pos hb', if_pos hb'] at hQ
      refine js_cons (js_set O (fld_zero G) ?_)
      walk_at "JWS"
      refine ⟨x, _, .branch v o l, _, _, _, _, rfl, h0, rfl, rfl, .here, by decide, ?_⟩
      walk_at "JWS"
      exact hQ
    · have hb' : ¬ b = 0 := by simpa using hb
      rw [if_neg hb', if_neg hb'] at hQ
      refine js_cons (js_set O (fld_one G) ?_)
      walk_at "JWS"
      refine ⟨x, _, .branch z v l, _, _, _, _, rfl, h0, rfl, rfl, .on (by decide) .here, by decide, ?_⟩
      walk_at "JWS"
      exact hQ
theorem v_is_bare (G : GP) : Valid G (.ref 152) 2 isBareS := by
  refine valid_def (n := 1) [S "self"] [S "self"] [] 1 (by k_is) (by k_is) ?_ ?_ rfl rfl rfl ?_ ?_ ?_ ?_ rfl rfl ?_
  · rintro vs σ Q ⟨x, l, z, o, rs, rfl, h0, k1, k2, hl, hQ⟩; rfl
  · intro us hl
    rcases us with _ | ⟨u0, _ | ⟨u1, us⟩⟩ <;> first | (exfalso; simp at hl; done) | rfl
  · decide +kernel
  · decide +kernel
  · decide +kernel
  · decide +kernel
  · rintro c O hnm hgl vs σ Q ⟨x, l, z, o, rs, rfl, h0, k1, k2, hl, hQ⟩
    show JX G c _ _ (execs (_ :: _) c.env) _ _
    have l0 : LocAt c 0 (S "self") := by unfold LocAt; rw [hnm]; rfl
    refine js_cons (js_ret (JE.shrink ?_))
    walk_at "JWS"
    refine je_routes O ?_
    walk_at "JWS"
    refine ⟨x, _, _, _, rfl, h0, k1, k2, .ref, ?_⟩
    walk_at "JWS"
    refine ⟨by decide, fun d hd => ?_⟩
    have sb : Sub σ (upd σ d (.list [])) := Sub.upd hd
    refine jc_eq_nil O (sb _ _ hl) upd_self ?_
    refine ⟨_, rfl, fun hb => ?_, fun hb => ?_⟩
    · walk_at "JWS"
      refine je_zero O ?_
      walk_at "JWS"
      refine ⟨x, _, _, _, rfl, sb _ _ h0, k1, k2, .ref, ?_⟩
      walk_at "JWS"
      refine ⟨fun hb2 => ?_, fun hb2 => ?_⟩
      · walk_at "JWS"
        refine je_one O ?_
        walk_at "JWS"
        refine ⟨x, _, _, _, rfl, sb _ _ h0, k1, k2, .ref, ?_⟩
        walk_at "JWS"
        refine ⟨σ, sb, ?_⟩
        rw [hb, hb2] at hQ; exact hQ
      · refine ⟨σ, sb, ?_⟩
        rw [hb, hb2] at hQ; exact hQ
    · refine ⟨σ, sb, ?_⟩
      rw [hb] at hQ; exact hQ

theorem go_name {G : GP} {c : FC} {x : PySem.Str} {p : Pos} {it : Addr} {v : Value} {s : Shared} {Q : Unit → Shared → Prop} {E : Value → Shared → Prop} (h : Q () s) : wpAny (MM G.w) c.A (letOwnedTupleGo (.Name x p) (.ref it) v) Q E s := wpAny_pure h
theorem optV_none {b : Option (Addr × Row)} : (optV b == .none) = b.isNone := by
  cases b with
  | none => rfl
  | some q => simp [optV]
theorem foldl_take {α β : Type} (f : β → α → β) (b : β) (l : List α) {k : Nat} {x : α} (h : l[k]? = some x) : (l.take (k + 1)).foldl f b = f ((l.take k).foldl f b) x := by
  rw [List.take_add_one, h, List.foldl_append]; rfl
theorem better_mem {rs : List (Addr × Row)} {b : Option (Addr × Row)} {q : Addr × Row} (h : rs.foldl better b = some q) : q ∈ rs ∨ b = some q := by
  induction rs generalizing b with
  | nil => exact .inr h
  | cons r rs ih =>
    rcases ih h with h1 | h1
    · exact .inl (.tail _ h1)
    · cases b with
      | none => simp only [better, Option.some.injEq] at h1; subst h1; exact .inl (.head _)
      | some b =>
        unfold better at h1
        dsimp only at h1
        split at h1
        · simp only [Option.some.injEq] at h1; subst h1; exact .inl (.head _)
        · exact .inr h1
theorem v_best (G : GP) : Valid G (.ref 159) 2 bestS := by
  refine valid_def (n := 1) [S "self"] [S "self", S "found", S "route"] [] 1 (by k_is) (by k_is) ?_ ?_ rfl rfl rfl ?_ ?_ ?_ ?_ rfl rfl ?_
  · rintro vs σ Q ⟨x, l, z, o, rs, rfl, h0, k1, k2, hl, hz, hr, hQ⟩; rfl
  · intro us hl
    rcases us with _ | ⟨u0, _ | ⟨u1, us⟩⟩ <;> first | (exfalso; simp at hl; done) | rfl
  · decide +kernel
  · decide +kernel
  · decide +kernel
  · decide +kernel
  · rintro c O hnm hgl vs σ Q ⟨x, l, z, o, rs, rfl, h0, k1, k2, hl, hz, hr, hQ⟩
    show JX G c _ _ (execs (_ :: _) c.env) _ _
    have l0 : LocAt c 0 (S "self") := by unfold LocAt; rw [hnm]; rfl
    have l1 : LocAt c 1 (S "found") := by unfold LocAt; rw [hnm]; rfl
    have l2 : LocAt c 2 (S "route") := by unfold LocAt; rw [hnm]; rfl
    walk_at "JWS"
    refine js_for_list ?_ (fun _ _ _ _ _ _ _ _ hq => go_name hq)
    refine je_routes O ?_
    walk_at "JWS"
    refine ⟨x, _, _, _, rfl, h0, k1, k2, .ref, ?_⟩
    refine ⟨l, _, fun k ρ τ => τ = σ ∧ ρ[0]? = some (some (.ref x)) ∧ ρ[1]? = some (some (optV (bestOf (rs.take k)))) ∧ 3 ≤ ρ.length, rfl, hl, ⟨rfl, rfl, rfl, Nat.le_refl _⟩, ?_, ?_, ?_⟩
    · rintro k ρ τ ⟨rfl, _⟩; exact hl
    · rintro k ρ τ w ⟨rfl, e0, e1, e3⟩ hw
      rw [List.getElem?_map] at hw
      cases hq : rs[k]? with
      | none => rw [hq] at hw; cases hw
      | some q =>
      rw [hq] at hw
      cases hw
      have hqm : q ∈ rs := List.mem_of_getElem? hq
      have eb : bestOf (rs.take (k + 1)) = better (bestOf (rs.take k)) q := foldl_take better none rs hq
      refine jas_name O l2 ?_
      have e0' : (ρ.set 2 (some (.ref q.1)))[0]? = some (some (.ref x)) := by rw [List.getElem?_set_ne (by decide)]; exact e0
      have e1' : (ρ.set 2 (some (.ref q.1)))[1]? = some (some (optV (bestOf (rs.take k)))) := by rw [List.getElem?_set_ne (by decide)]; exact e1
      have e2' : (ρ.set 2 (some (.ref q.1)))[2]? = some (some (.ref q.1)) := by rw [List.getElem?_set_self (by omega)]
      have e3' : 3 ≤ (ρ.set 2 (some (.ref q.1))).length := by rw [List.length_set]; exact e3
      generalize ρ.set 2 (some (.ref q.1)) = ρ' at e0' e1' e2' e3' ⊢
      have fin : ∀ {PPa PPb PPc : Pos}, (bestOf (rs.take k)).isNone = true ∨ (∃ r, bestOf (rs.take k) = some r ∧ q.2.m < r.2.m) → JX G c ρ' τ (execs [Stmt.Assign [Expr.Name (S "found") PPa] (Expr.Name (S "route") PPb) PPc] c.env) (fun ρ τ' => τ' = τ ∧ ρ[0]? = some (some (.ref x)) ∧ ρ[1]? = some (some (optV (bestOf (rs.take (k + 1))))) ∧ 3 ≤ ρ.length) Q := fun {_ _ _} hd => by
        refine js_cons (js_assign O l1 (je_loc O l2 e2' ?_))
        refine js_nil ⟨rfl, ?_, ?_, ?_⟩
        · rw [List.getElem?_set_ne (by decide)]; exact e0'
        · rw [List.getElem?_set_self (by omega), eb]
          rcases hd with hd | ⟨r, hd, hlt⟩
          · rw [Option.isNone_iff_eq_none.mp hd]; rfl
          · rw [hd]; simp only [better, if_pos hlt]; rfl
        · rw [List.length_set]; exact e3'
      refine js_cons (js_if ?_)
      refine jt_bool (jal_or (jt_cmp (je_loc O l1 e1' ?_)))
      walk_at "JWS"
      refine ⟨fun hb => ?_, fun hb => ?_⟩
      · rw [optV_none] at hb
        exact ⟨fun _ => JX.mono (fin (.inl hb)) (fun _ _ h => js_nil h) (fun _ _ h => h), fun h => by cases h⟩
      · rw [optV_none] at hb
        obtain ⟨r, hr'⟩ := Option.isSome_iff_exists.mp (by cases h : bestOf (rs.take k) <;> simp_all : (bestOf (rs.take k)).isSome = true)
        have hrm : r ∈ rs := by
          rcases better_mem hr' with h | h
          · exact List.mem_of_mem_take h
          · cases h
        rw [hr'] at e1'
        refine jal_or (jt_cmp (je_metric O (je_loc O l2 e2' ?_)))
        refine ⟨q.1, _, _, _, _, _, rfl, hr _ hqm, ?_⟩
        refine je_metric O (je_loc O l1 e1' ?_)
        refine ⟨r.1, _, _, _, _, _, rfl, hr _ hrm, ?_⟩
        walk_at "JWS"
        refine ⟨fun hc => ?_, fun hc => ?_⟩
        · have hc' : q.2.m < r.2.m := by simpa using hc
          exact ⟨fun _ => JX.mono (fin (.inr ⟨r, hr', hc'⟩)) (fun _ _ h => js_nil h) (fun _ _ h => h), fun h => by cases h⟩
        refine jal_or0 ⟨fun h => (by cases h), fun _ => js_nil (js_nil ⟨rfl, e0', ?_, e3'⟩)⟩
        rw [eb, hr']
        have : ¬ q.2.m < r.2.m := by simpa using hc
        simp only [better, if_neg this]
        exact e1'
    · rintro ρ τ ⟨rfl, e0, e1, e3⟩
      refine js_cons (js_ret (je_loc O l1 e1 ?_))
      rw [List.length_map, List.take_length]
      exact hQ
end Mine
end

section
open PySem PySem.W PyProof.Rows PySem.Spec PySem.Calls
namespace Mine
abbrev Path := List Bool
structure Nd where
  a : Addr
  l : Addr
  rs : List (Addr × Row)
abbrev Trie := Path → Option Nd
noncomputable def chV (T : Trie) (p : Path) (b : Bool) : Value := match T (p ++ [b]) with
  | some nd => .ref nd.a
  | none => .none
noncomputable def cts (T : Trie) (p : Path) : List (Addr × Row) := match T p with
  | some nd => nd.rs
  | none => []
structure TrieAt (σ : AH) (T : Trie) (root : Addr) : Prop where
  top : ∃ nd, T [] = some nd ∧ nd.a = root
  closed : ∀ p b, (T (p ++ [b])).isSome = true → (T p).isSome = true
  node : ∀ p nd, T p = some nd → σ nd.a = some (.branch (chV T p false) (chV T p true) (.ref nd.l))
  lst : ∀ p nd, T p = some nd → σ nd.l = some (.list (nd.rs.map fun q => .ref q.1))
  rts : ∀ p nd, T p = some nd → RtsAt σ nd.rs
  injA : ∀ p q nd nd', T p = some nd → T q = some nd' → nd.a = nd'.a → p = q
  injL : ∀ p q nd nd', T p = some nd → T q = some nd' → nd.l = nd'.l → p = q
  deep : ∀ p nd, T p = some nd → p.length ≤ 32
theorem snoc_inj {p q : Path} {b c : Bool} (h : p ++ [b] = q ++ [c]) : p = q ∧ b = c := by
  obtain ⟨h1, h2⟩ := List.append_inj' h rfl
  exact ⟨h1, by simpa using h2⟩
theorem chV_plain {T : Trie} {p : Path} {b : Bool} : Plain (chV T p b) := by
  unfold chV; split
  · exact .ref
  · exact .none
theorem TrieAt.ne_al {σ : AH} {T : Trie} {root : Addr} (H : TrieAt σ T root) {p q : Path} {nd nd' : Nd} (h : T p = some nd) (h' : T q = some nd') : nd.a ≠ nd'.l := fun e => by
  have h1 := H.node _ _ h
  have h2 := H.lst _ _ h'
  rw [e, h2] at h1; cases h1
/-- what is kept -/
noncomputable def isBr : AO → Bool
  | .branch _ _ _ => true
  | _ => false
noncomputable def Fram (T : Trie) (R : Addr) (σ σ' : AH) : Prop := ∀ b o, σ b = some o → isBr o = false → b ≠ R → (∀ p nd, T p = some nd → b ≠ nd.l) → σ' b = some o
noncomputable def Lsub (T T' : Trie) (σ : AH) : Prop := ∀ p nd', T' p = some nd' → (∃ q nd, T q = some nd ∧ nd.l = nd'.l) ∨ σ nd'.l = none
theorem Lsub.refl {T : Trie} {σ : AH} : Lsub T T σ := fun p nd h => .inl ⟨p, nd, h, rfl⟩
theorem Fram.of_sub {T : Trie} {R : Addr} {σ σ' : AH} (h : Sub σ σ') : Fram T R σ σ' := fun _ _ e _ _ _ => h _ _ e

theorem TrieAt.ext {σ σ' : AH} {T : Trie} {root : Addr} (H : TrieAt σ T root) (h : ∀ b o, σ b = some o → (∃ p nd, T p = some nd ∧ (b = nd.a ∨ b = nd.l ∨ ∃ q ∈ nd.rs, b = q.1)) → σ' b = some o) : TrieAt σ' T root where
  top := H.top
  closed := H.closed
  node := fun p nd e => h _ _ (H.node p nd e) ⟨p, nd, e, .inl rfl⟩
  lst := fun p nd e => h _ _ (H.lst p nd e) ⟨p, nd, e, .inr (.inl rfl)⟩
  rts := fun p nd e q hq => h _ _ (H.rts p nd e q hq) ⟨p, nd, e, .inr (.inr ⟨q, hq, rfl⟩)⟩
  injA := H.injA
  injL := H.injL
  deep := H.deep
theorem TrieAt.sub {σ σ' : AH} {T : Trie} {root : Addr} (H : TrieAt σ T root) (h : Sub σ σ') : TrieAt σ' T root := H.ext fun b o e _ => h b o e
/-- an entry that is no node's turns -/
theorem TrieAt.other {σ : AH} {T : Trie} {root : Addr} (H : TrieAt σ T root) {x : Addr} {o : AO} (h : ∀ p nd, T p = some nd → x ≠ nd.a ∧ x ≠ nd.l ∧ ∀ q ∈ nd.rs, x ≠ q.1) : TrieAt (upd σ x o) T root := H.ext fun b o' e ⟨p, nd, hp, hb⟩ => by
  rw [upd_other]; exact e
  rintro rfl
  obtain ⟨h1, h2, h3⟩ := h p nd hp
  rcases hb with hb | hb | ⟨q, hq, hb⟩
  · exact h1 hb
  · exact h2 hb
  · exact h3 q hq hb
theorem TrieAt.fresh {σ : AH} {T : Trie} {root : Addr} (H : TrieAt σ T root) {x : Addr} (h : σ x = none) {p : Path} {nd : Nd} (hp : T p = some nd) : x ≠ nd.a ∧ x ≠ nd.l ∧ ∀ q ∈ nd.rs, x ≠ q.1 := by
  refine ⟨?_, ?_, fun q hq => ?_⟩
  · rintro rfl; rw [H.node p nd hp] at h; cases h
  · rintro rfl; rw [H.lst p nd hp] at h; cases h
  · rintro rfl; rw [H.rts p nd hp q hq] at h; cases h

noncomputable def setT (T : Trie) (p : Path) (n : Option Nd) : Trie := fun q => if q = p then n else T q
theorem setT_self {T : Trie} {p : Path} {n : Option Nd} : setT T p n p = n := if_pos rfl
theorem setT_other {T : Trie} {p q : Path} {n : Option Nd} (h : q ≠ p) : setT T p n q = T q := if_neg h
theorem len_ne {p : Path} {b : Bool} : p ++ [b] ≠ p := fun h => by
  have := congrArg List.length h; simp at this
theorem nil_ne {p : Path} {b : Bool} : ([] : Path) ≠ p ++ [b] := by simp

/-- the value that set_child leaves -/
noncomputable def chSet (T : Trie) (p : Path) (b c : Bool) (v : Value) : Value := if c = b then v else chV T p c
theorem TrieAt.grow {σ : AH} {T : Trie} {root : Addr} (H : TrieAt σ T root) {p : Path} {b : Bool} {nd : Nd} {x l : Addr} (hp : T p = some nd) (hn : T (p ++ [b]) = none) (hx : σ x = none) (hl : σ l = none) (hlx : l ≠ x) (h32 : p.length < 32) :
    TrieAt (upd (upd (upd σ l (.list [])) x (.branch .none .none (.ref l))) nd.a (.branch (chSet T p b false (.ref x)) (chSet T p b true (.ref x)) (.ref nd.l))) (setT T (p ++ [b]) (some ⟨x, l, []⟩)) root := by
  have fx := fun {q nd'} (h : T q = some nd') => H.fresh hx h
  have fl := fun {q nd'} (h : T q = some nd') => H.fresh hl h
  have ch0 : ∀ q c, ¬ (q = p ∧ c = b) → chV (setT T (p ++ [b]) (some ⟨x, l, []⟩)) q c = chV T q c := fun q c h => by
    unfold chV
    rw [setT_other fun e => h (snoc_inj e)]
  have ch1 : chV (setT T (p ++ [b]) (some ⟨x, l, []⟩)) p b = .ref x := by unfold chV; rw [setT_self]
  have chn : ∀ c, T (p ++ [b] ++ [c]) = none := fun c => by
    cases h : T (p ++ [b] ++ [c]) with
    | none => rfl
    | some z => have := H.closed _ _ (by rw [h]; rfl); rw [hn] at this; cases this
  have chp : ∀ c, chV (setT T (p ++ [b]) (some ⟨x, l, []⟩)) p c = chSet T p b c (.ref x) := fun c => by
    unfold chSet
    by_cases h : c = b
    · subst h; rw [if_pos rfl, ch1]
    · rw [if_neg h, ch0 _ _ fun e => h e.2]
  have ax : nd.a ≠ x := Ne.symm (fx hp).1
  have al : nd.a ≠ l := Ne.symm (fl hp).1
  have keepN : ∀ q nd', T q = some nd' → q ≠ p → upd (upd (upd σ l (.list [])) x (.branch .none .none (.ref l))) nd.a (.branch (chSet T p b false (.ref x)) (chSet T p b true (.ref x)) (.ref nd.l)) nd'.a = σ nd'.a := fun q nd' h hq => by
    rw [upd_other fun e => hq (H.injA _ _ _ _ h hp e), upd_other (Ne.symm (fx h).1), upd_other (Ne.symm (fl h).1)]
  have keepL : ∀ q nd', T q = some nd' → upd (upd (upd σ l (.list [])) x (.branch .none .none (.ref l))) nd.a (.branch (chSet T p b false (.ref x)) (chSet T p b true (.ref x)) (.ref nd.l)) nd'.l = σ nd'.l := fun q nd' h => by
    rw [upd_other (Ne.symm (H.ne_al hp h)), upd_other (Ne.symm (fx h).2.1), upd_other (Ne.symm (fl h).2.1)]
  refine ⟨?_, fun q c h => ?_, fun q nd' h => ?_, fun q nd' h => ?_, fun q nd' h r hr => ?_, fun q q' nd1 nd2 h1 h2 e => ?_, fun q q' nd1 nd2 h1 h2 e => ?_, fun q nd' h => ?_⟩
  · obtain ⟨nd0, h0, h1⟩ := H.top
    exact ⟨nd0, by rw [setT_other nil_ne]; exact h0, h1⟩
  · by_cases hq : q = p ++ [b]
    · subst hq; rw [setT_self]; rfl
    · rw [setT_other hq]
      by_cases hq2 : q ++ [c] = p ++ [b]
      · rw [(snoc_inj hq2).1, hp]; rfl
      · rw [setT_other hq2] at h; exact H.closed _ _ h
  · by_cases hq : q = p ++ [b]
    · subst hq
      rw [setT_self] at h; cases h
      show upd _ _ _ x = _
      rw [upd_other (Ne.symm ax), upd_self]
      have : ∀ c, chV (setT T (p ++ [b]) (some ⟨x, l, []⟩)) (p ++ [b]) c = .none := fun c => by
        rw [ch0 _ _ fun e => len_ne e.1]; unfold chV; rw [chn]
      rw [this, this]
    · rw [setT_other hq] at h
      by_cases hqp : q = p
      · subst hqp
        rw [hp] at h; cases h
        rw [upd_self, chp, chp]
      · rw [keepN q nd' h hqp, H.node q nd' h, ch0 _ _ fun e => hqp e.1, ch0 _ _ fun e => hqp e.1]
  · by_cases hq : q = p ++ [b]
    · subst hq
      rw [setT_self] at h; cases h
      show upd _ _ _ l = _
      rw [upd_other (Ne.symm al), upd_other hlx, upd_self]; rfl
    · rw [setT_other hq] at h
      rw [keepL q nd' h]; exact H.lst q nd' h
  · by_cases hq : q = p ++ [b]
    · subst hq
      rw [setT_self] at h; cases h
      cases hr
    · rw [setT_other hq] at h
      have hr' := H.rts q nd' h r hr
      rw [upd_other, upd_other, upd_other]; exact hr'
      · exact Ne.symm ((fl h).2.2 r hr)
      · exact Ne.symm ((fx h).2.2 r hr)
      · intro e; rw [e, H.node p nd hp] at hr'; cases hr'
  · by_cases hq : q = p ++ [b]
    · subst hq
      rw [setT_self] at h1; cases h1
      by_cases hq' : q' = p ++ [b]
      · exact hq'.symm
      · rw [setT_other hq'] at h2; exact absurd e (fx h2).1
    · rw [setT_other hq] at h1
      by_cases hq' : q' = p ++ [b]
      · subst hq'
        rw [setT_self] at h2; cases h2
        exact absurd e.symm (fx h1).1
      · rw [setT_other hq'] at h2; exact H.injA _ _ _ _ h1 h2 e
  · by_cases hq : q = p ++ [b]
    · subst hq
      rw [setT_self] at h1; cases h1
      by_cases hq' : q' = p ++ [b]
      · exact hq'.symm
      · rw [setT_other hq'] at h2; exact absurd e (fl h2).2.1
    · rw [setT_other hq] at h1
      by_cases hq' : q' = p ++ [b]
      · subst hq'
        rw [setT_self] at h2; cases h2
        exact absurd e.symm (fl h1).2.1
      · rw [setT_other hq'] at h2; exact H.injL _ _ _ _ h1 h2 e
  · by_cases hq : q = p ++ [b]
    · rw [hq, List.length_append, List.length_singleton]; omega
    · rw [setT_other hq] at h; exact H.deep _ _ h

/-- a bare node goes -/
theorem TrieAt.cut {σ : AH} {T : Trie} {root : Addr} (H : TrieAt σ T root) {p : Path} {b : Bool} {nd nd1 : Nd} (hp : T p = some nd) (hn : T (p ++ [b]) = some nd1) (h0 : ∀ c, T (p ++ [b] ++ [c]) = none) :
    TrieAt (upd σ nd.a (.branch (chSet T p b false .none) (chSet T p b true .none) (.ref nd.l))) (setT T (p ++ [b]) none) root := by
  have ch0 : ∀ q c, ¬ (q = p ∧ c = b) → chV (setT T (p ++ [b]) none) q c = chV T q c := fun q c h => by
    unfold chV
    rw [setT_other fun e => h (snoc_inj e)]
  have ch1 : chV (setT T (p ++ [b]) none) p b = .none := by unfold chV; rw [setT_self]
  have chp : ∀ c, chV (setT T (p ++ [b]) none) p c = chSet T p b c .none := fun c => by
    unfold chSet
    by_cases h : c = b
    · subst h; rw [if_pos rfl, ch1]
    · rw [if_neg h, ch0 _ _ fun e => h e.2]
  have sm : ∀ q nd', setT T (p ++ [b]) none q = some nd' → q ≠ p ++ [b] ∧ T q = some nd' := fun q nd' h => by
    by_cases hq : q = p ++ [b]
    · subst hq; rw [setT_self] at h; cases h
    · exact ⟨hq, by rw [setT_other hq] at h; exact h⟩
  refine ⟨?_, fun q c h => ?_, fun q nd' h => ?_, fun q nd' h => ?_, fun q nd' h r hr => ?_, fun q q' nd1 nd2 h1 h2 e => ?_, fun q q' nd1 nd2 h1 h2 e => ?_, fun q nd' h => ?_⟩
  · obtain ⟨nd0, h0, h1⟩ := H.top
    exact ⟨nd0, by rw [setT_other nil_ne]; exact h0, h1⟩
  · have hq2 : q ++ [c] ≠ p ++ [b] := fun e => by rw [e, setT_self] at h; cases h
    rw [setT_other hq2] at h
    by_cases hq : q = p ++ [b]
    · subst hq; rw [h0] at h; cases h
    · rw [setT_other hq]; exact H.closed _ _ h
  · obtain ⟨hq, hh⟩ := sm _ _ h
    by_cases hqp : q = p
    · subst hqp
      rw [hp] at hh; cases hh
      rw [upd_self, chp, chp]
    · rw [upd_other fun e => hqp (H.injA _ _ _ _ hh hp e), H.node q nd' hh, ch0 _ _ fun e => hqp e.1, ch0 _ _ fun e => hqp e.1]
  · obtain ⟨hq, h⟩ := sm _ _ h
    rw [upd_other (Ne.symm (H.ne_al hp h))]; exact H.lst q nd' h
  · obtain ⟨hq, h⟩ := sm _ _ h
    have hr' := H.rts q nd' h r hr
    rw [upd_other]; exact hr'
    intro e; rw [e, H.node p nd hp] at hr'; cases hr'
  · exact H.injA _ _ _ _ (sm _ _ h1).2 (sm _ _ h2).2 e
  · exact H.injL _ _ _ _ (sm _ _ h1).2 (sm _ _ h2).2 e
  · exact H.deep _ _ (sm _ _ h).2

/-- a node's list turns, or another list takes its place -/
theorem TrieAt.turn {σ τ : AH} {T : Trie} {root : Addr} (H : TrieAt σ T root) {p : Path} {nd : Nd} {l' : Addr} {rs' : List (Addr × Row)} (hp : T p = some nd)
    (h1 : τ nd.a = some (.branch (chV T p false) (chV T p true) (.ref l'))) (h2 : τ l' = some (.list (rs'.map fun q => .ref q.1))) (h3 : RtsAt τ rs')
    (h4 : ∀ q nd', T q = some nd' → q ≠ p → τ nd'.a = σ nd'.a ∧ τ nd'.l = σ nd'.l ∧ l' ≠ nd'.l) (h5 : ∀ q nd', T q = some nd' → q ≠ p → ∀ r ∈ nd'.rs, τ r.1 = σ r.1) : TrieAt τ (setT T p (some ⟨nd.a, l', rs'⟩)) root := by
  have ch0 : ∀ q c, chV (setT T p (some ⟨nd.a, l', rs'⟩)) q c = chV T q c := fun q c => by
    unfold chV
    by_cases hq : q ++ [c] = p
    · rw [hq, setT_self, hp]
    · rw [setT_other hq]
  have cs : ∀ q nd', setT T p (some ⟨nd.a, l', rs'⟩) q = some nd' → (q = p ∧ nd' = ⟨nd.a, l', rs'⟩) ∨ (q ≠ p ∧ T q = some nd') := fun q nd' h => by
    by_cases hq : q = p
    · subst hq; rw [setT_self] at h; cases h; exact .inl ⟨rfl, rfl⟩
    · exact .inr ⟨hq, by rw [setT_other hq] at h; exact h⟩
  have so : ∀ q, (setT T p (some ⟨nd.a, l', rs'⟩) q).isSome = (T q).isSome := fun q => by
    by_cases hq : q = p
    · subst hq; rw [setT_self, hp]; rfl
    · rw [setT_other hq]
  refine ⟨?_, fun q c h => ?_, fun q nd' h => ?_, fun q nd' h => ?_, fun q nd' h r hr => ?_, fun q q' nd1 nd2 k1 k2 e => ?_, fun q q' nd1 nd2 k1 k2 e => ?_, fun q nd' h => ?_⟩
  · obtain ⟨nd0, h0, h1⟩ := H.top
    by_cases hq : [] = p
    · subst hq
      rw [h0] at hp; cases hp
      exact ⟨_, setT_self, h1⟩
    · exact ⟨nd0, by rw [setT_other hq]; exact h0, h1⟩
  · rw [so] at h ⊢; exact H.closed _ _ h
  · rw [ch0, ch0]
    rcases cs _ _ h with ⟨rfl, rfl⟩ | ⟨hq, h⟩
    · exact h1
    · rw [(h4 q nd' h hq).1]; exact H.node q nd' h
  · rcases cs _ _ h with ⟨rfl, rfl⟩ | ⟨hq, h⟩
    · exact h2
    · rw [(h4 q nd' h hq).2.1]; exact H.lst q nd' h
  · rcases cs _ _ h with ⟨rfl, rfl⟩ | ⟨hq, h⟩
    · exact h3 r hr
    · rw [h5 q nd' h hq r hr]; exact H.rts q nd' h r hr
  · rcases cs _ _ k1 with ⟨e1, e2⟩ | ⟨hq, k3⟩
    · rcases cs _ _ k2 with ⟨e3, e4⟩ | ⟨hq', k4⟩
      · rw [e1, e3]
      · rw [e2] at e; rw [e1]; exact H.injA _ _ _ _ hp k4 e
    · rcases cs _ _ k2 with ⟨e3, e4⟩ | ⟨hq', k4⟩
      · rw [e4] at e; rw [e3]; exact H.injA _ _ _ _ k3 hp e
      · exact H.injA _ _ _ _ k3 k4 e
  · rcases cs _ _ k1 with ⟨e1, e2⟩ | ⟨hq, k3⟩
    · rcases cs _ _ k2 with ⟨e3, e4⟩ | ⟨hq', k4⟩
      · rw [e1, e3]
      · rw [e2] at e; exact absurd e (h4 _ _ k4 hq').2.2
    · rcases cs _ _ k2 with ⟨e3, e4⟩ | ⟨hq', k4⟩
      · rw [e4] at e; exact absurd e.symm (h4 _ _ k3 hq).2.2
      · exact H.injL _ _ _ _ k3 k4 e
  · rcases cs _ _ h with ⟨e1, _⟩ | ⟨_, h⟩
    · rw [e1]; exact H.deep _ _ hp
    · exact H.deep _ _ h

/-! the path of an address -/
noncomputable def bitB (a : Int) (i : Nat) : Bool := decide (bitI a i ≠ 0)
noncomputable def pathOf (a : Int) (k : Nat) : Path := (List.range k).map (bitB a)
theorem pathOf_zero {a : Int} : pathOf a 0 = [] := rfl
theorem pathOf_succ {a : Int} {k : Nat} : pathOf a (k + 1) = pathOf a k ++ [bitB a k] := by
  unfold pathOf; rw [List.range_succ, List.map_append]; rfl
theorem pathOf_len {a : Int} {k : Nat} : (pathOf a k).length = k := by unfold pathOf; simp
end Mine
end

section
open PySem PySem.W PyProof.Rows PySem.Spec PySem.Calls
namespace Mine

theorem js_seq {G : GP} {c : FC} {ρ : LE} {σ : AH} {N : LE → AH → Prop} {R : Value → AH → Prop} {st : Stmt} {rest : List Stmt} (M : LE → AH → Prop) (h : JX G c ρ σ (exec st c.env) M R) (k : ∀ ρ1 σ1, M ρ1 σ1 → JX G c ρ1 σ1 (execs rest c.env) N R) : JX G c ρ σ (execs (st :: rest) c.env) N R :=
  js_cons (JX.mono h k fun _ _ x => x)
theorem inter {G : GP} {n : Nat} {c : FC} (O : c.Ok G n) : interactive c.env = false := by
  unfold interactive; show (c.cs.kind == _ && _) = false; rw [O.kind]; rfl
theorem m_size (G : GP) : Meth G 244 nRoutes (S "size") 194 := ⟨by k_is, by k_is, by k_is, by k_is, by decide⟩
theorem m_path (G : GP) : Meth G 244 nRoutes (S "path") 201 := ⟨by k_is, by k_is, by k_is, by k_is, by decide⟩
theorem m_add (G : GP) : Meth G 244 nRoutes (S "add") 208 := ⟨by k_is, by k_is, by k_is, by k_is, by decide⟩
theorem m_remove (G : GP) : Meth G 244 nRoutes (S "remove") 215 := ⟨by k_is, by k_is, by k_is, by k_is, by decide⟩
theorem m_remove_face (G : GP) : Meth G 244 nRoutes (S "remove_face") 220 := ⟨by k_is, by k_is, by k_is, by k_is, by decide⟩
theorem m_prune (G : GP) : Meth G 244 nRoutes (S "prune") 227 := ⟨by k_is, by k_is, by k_is, by k_is, by decide⟩
theorem m_find (G : GP) : Meth G 244 nRoutes (S "find") 234 := ⟨by k_is, by k_is, by k_is, by k_is, by decide⟩
theorem m_rows (G : GP) : Meth G 244 nRoutes (S "rows") 241 := ⟨by k_is, by k_is, by k_is, by k_is, by decide⟩
theorem b_range (G : GP) : TopB G (S "range") (.type "range") := ⟨by k_is, by decide +kernel, by decide⟩
theorem b_len (G : GP) : TopB G (S "len") (.builtin "len") := ⟨by k_is, by decide +kernel, by decide⟩
noncomputable def newW (σ : AH) (R x l : Addr) : AH := upd (upd (upd σ l (.list [])) x (.branch .none .none (.ref l))) R (.routes (.ref x) 0)
noncomputable def routesInitS : SpecT := fun vs σ Q => ∃ R : Addr, vs = [.ref R] ∧ σ R = some (.part 244 [] []) ∧ ∀ x l, σ x = none → σ l = none → l ≠ x → Q .none (newW σ R x l)
noncomputable def routesS : SpecT := fun vs σ Q => vs = [] ∧ ∀ R x l, σ R = none → σ x = none → σ l = none → l ≠ x → R ≠ x → R ≠ l → Q (.ref R) (newW σ R x l)
noncomputable def sizeS : SpecT := fun vs σ Q => ∃ (R : Addr) (r : Value) (m : Int), vs = [.ref R] ∧ σ R = some (.routes r m) ∧ Plain r ∧ Q (vi m) σ
noncomputable def trie0 (x l : Addr) : Trie := fun p => if p = [] then some ⟨x, l, []⟩ else none
theorem trie_new {σ : AH} {R x l : Addr} (hlx : l ≠ x) (h1 : R ≠ x) (h2 : R ≠ l) : TrieAt (newW σ R x l) (trie0 x l) x := by
  have sm : ∀ p nd, trie0 x l p = some nd → p = [] ∧ nd = ⟨x, l, []⟩ := fun p nd h => by
    unfold trie0 at h
    split at h
    · exact ⟨by assumption, (Option.some.inj h).symm⟩
    · cases h
  have ch : ∀ p b, chV (trie0 x l) p b = .none := fun p b => by unfold chV trie0; simp
  refine ⟨⟨_, rfl, rfl⟩, fun p b h => ?_, fun p nd h => ?_, fun p nd h => ?_, fun p nd h q hq => ?_, fun p q nd nd' h h' _ => ?_, fun p q nd nd' h h' _ => ?_, fun p nd h => ?_⟩
  · unfold trie0 at h; simp at h
  · obtain ⟨rfl, rfl⟩ := sm _ _ h
    rw [ch, ch]; unfold newW; rw [upd_other (Ne.symm h1), upd_self]
  · obtain ⟨rfl, rfl⟩ := sm _ _ h
    unfold newW; rw [upd_other (Ne.symm h2), upd_other hlx, upd_self]; rfl
  · obtain ⟨rfl, rfl⟩ := sm _ _ h
    cases hq
  · rw [(sm _ _ h).1, (sm _ _ h').1]
  · rw [(sm _ _ h).1, (sm _ _ h').1]
  · rw [(sm _ _ h).1]; decide
theorem v_Routes_init (G : GP) : Valid G (.ref 187) 3 routesInitS := by
  refine valid_def (n := 2) [S "self"] [S "self"] [S "Branch"] 1 (by k_is) (by k_is) ?_ ?_ rfl rfl rfl ?_ ?_ ?_ ?_ rfl rfl ?_
  · rintro vs σ Q ⟨R, rfl, h0, hQ⟩; rfl
  · intro us hl
    rcases us with _ | ⟨u0, _ | ⟨u1, us⟩⟩ <;> first | (exfalso; simp at hl; done) | rfl
  · decide +kernel
  · decide +kernel
  · decide +kernel
  · decide +kernel
  · rintro c O hnm hgl vs σ Q ⟨R, rfl, h0, hQ⟩
    show JX G c _ _ (execs (_ :: _) c.env) _ _
    have l0 : LocAt c 0 (S "self") := by unfold LocAt; rw [hnm]; rfl
    have g0 : GlAt c (S "Branch") := by unfold GlAt; rw [hgl]; simp
    refine js_cons (js_set O (fld_root G) ?_)
    refine je_call0 O g0 (t_Branch G) (v_Branch G) (by decide) ⟨rfl, fun x l hx hl hlx => ?_⟩
    have hRx : R ≠ x := by rintro rfl; rw [h0] at hx; cases hx
    have hRl : R ≠ l := by rintro rfl; rw [h0] at hl; cases hl
    walk_at "JWS"
    refine ⟨R, _, .part 244 [S "root"] [.ref x], _, _, _, _, rfl, (by rw [upd_other hRx, upd_other hRl]; exact h0), rfl, rfl, .new, by decide, ?_⟩
    refine js_cons (js_set O (fld_many G) ?_)
    walk_at "JWS"
    refine ⟨R, _, .routes (.ref x) 0, _, _, _, _, rfl, upd_self, rfl, rfl, .on (by decide) .new, by decide, ?_⟩
    refine js_nil ?_
    rw [upd_upd]
    exact hQ x l hx hl hlx

theorem v_Routes (G : GP) : Valid G (.ref 244) 4 routesS := by
  refine valid_cls (v_Routes_init G) (by k_is) (by k_is) (by k_is) ?_
  rintro vs σ Q ⟨rfl, hQ⟩ R hR
  refine ⟨R, rfl, upd_self, fun x l hx hl hlx => ⟨rfl, ?_⟩⟩
  have hRx : x ≠ R := by rintro rfl; rw [upd_self] at hx; cases hx
  have hRl : l ≠ R := by rintro rfl; rw [upd_self] at hl; cases hl
  rw [upd_other hRx] at hx; rw [upd_other hRl] at hl
  unfold newW
  rw [upd_comm (Ne.symm hRl), upd_comm (Ne.symm hRx), upd_upd]
  exact hQ R x l hR hx hl hlx (Ne.symm hRx) (Ne.symm hRl)
theorem v_size (G : GP) : Valid G (.ref 194) 1 sizeS := by
  refine valid_def (n := 0) [S "self"] [S "self"] [] 1 (by k_is) (by k_is) ?_ ?_ rfl rfl rfl ?_ ?_ ?_ ?_ rfl rfl ?_
  · rintro vs σ Q ⟨R, r, m, rfl, h0, k1, hQ⟩; rfl
  · intro us hl
    rcases us with _ | ⟨u0, _ | ⟨u1, us⟩⟩ <;> first | (exfalso; simp at hl; done) | rfl
  · decide +kernel
  · decide +kernel
  · decide +kernel
  · decide +kernel
  · rintro c O hnm hgl vs σ Q ⟨R, r, m, rfl, h0, k1, hQ⟩
    show JX G c _ _ (execs (_ :: _) c.env) _ _
    have l0 : LocAt c 0 (S "self") := by unfold LocAt; rw [hnm]; rfl
    refine js_cons (js_ret (je_many O ?_))
    walk_at "JWS"
    exact ⟨R, _, _, rfl, h0, k1, hQ⟩

noncomputable def adr (T : Trie) (p : Path) : Addr := match T p with
  | some nd => nd.a
  | none => 0
theorem adr_of {T : Trie} {p : Path} {nd : Nd} (h : T p = some nd) : adr T p = nd.a := by unfold adr; rw [h]
noncomputable def Grow (T T' : Trie) : Prop := (∀ p nd, T p = some nd → T' p = some nd) ∧ ∀ p nd', T' p = some nd' → T p = some nd' ∨ (T p = none ∧ nd'.rs = [])
theorem Grow.refl {T : Trie} : Grow T T := ⟨fun _ _ h => h, fun _ _ h => .inl h⟩
theorem Grow.cts {T T' : Trie} (h : Grow T T') (p : Path) : Mine.cts T' p = Mine.cts T p := by
  unfold Mine.cts
  cases h1 : T' p with
  | none => cases h2 : T p with
    | none => rfl
    | some nd => rw [h.1 _ _ h2] at h1; cases h1
  | some nd' =>
    rcases h.2 _ _ h1 with h2 | ⟨h2, h3⟩
    · rw [h2]
    · rw [h2]; exact h3
noncomputable def FramB (σ σ' : AH) : Prop := ∀ b o, σ b = some o → isBr o = false → σ' b = some o
noncomputable def Dom (σ σ' : AH) : Prop := ∀ b, σ' b = none → σ b = none
theorem Dom.refl {σ : AH} : Dom σ σ := fun _ h => h
theorem Dom.trans {a b c : AH} (h : Dom a b) (k : Dom b c) : Dom a c := fun x e => h x (k x e)
theorem Dom.upd {σ : AH} {a : Addr} {o : AO} : Dom σ (Mine.upd σ a o) := fun b e => by
  by_cases h : b = a
  · subst h; rw [upd_self] at e; cases e
  · rw [upd_other h] at e; exact e
noncomputable def pathV (T : Trie) (a : Int) (j : Nat) : List Value := (List.range (j + 1)).map fun i => .ref (adr T (pathOf a i))
structure PathPost (σ : AH) (T : Trie) (root : Addr) (a : Int) (K : Nat) (mk : Bool) (τ : AH) (T' : Trie) (j : Nat) (d : Addr) : Prop where
  hd : σ d = none
  hj : j ≤ K
  grow : Grow T T'
  same : mk = false → T' = T ∧ Sub σ τ
  fram : FramB σ τ
  dom : Dom σ τ
  lsub : Lsub T T' σ
  trie : TrieAt τ T' root
  all : ∀ i, i ≤ j → (T' (pathOf a i)).isSome = true
  stop : j = K ∨ (mk = false ∧ T (pathOf a (j + 1)) = none)
  list : τ d = some (.list (pathV T' a j))
  off : ∀ p nd, T' p = some nd → d ≠ nd.l
noncomputable def pathS : SpecT := fun vs σ Q => ∃ (R root : Addr) (m a : Int) (K : Nat) (mk : Bool) (T : Trie), vs = [.ref R, vi a, vi K, .bool mk] ∧ K ≤ 32 ∧ σ R = some (.routes (.ref root) m) ∧ TrieAt σ T root ∧ ∀ τ T' j d, PathPost σ T root a K mk τ T' j d → Q (.ref d) τ
structure PInv (σ : AH) (T : Trie) (R root : Addr) (a : Int) (mk : Bool) (d : Addr) (i : Nat) (ρ : LE) (τ : AH) (T' : Trie) : Prop where
  e0 : ρ[0]? = some (some (.ref R))
  e1 : ρ[1]? = some (some (vi a))
  e3 : ρ[3]? = some (some (.bool mk))
  e4 : ρ[4]? = some (some (.ref d))
  e8 : 8 ≤ ρ.length
  grow : Grow T T'
  same : mk = false → T' = T ∧ Sub σ τ
  fram : FramB σ τ
  dom : Dom σ τ
  lsub : Lsub T T' σ
  trie : TrieAt τ T' root
  all : ∀ j, j ≤ i → (T' (pathOf a j)).isSome = true
  list : τ d = some (.list (pathV T' a i))
  off : ∀ p nd, T' p = some nd → d ≠ nd.l
theorem pathV_snoc {T : Trie} {a : Int} {i : Nat} : pathV T a (i + 1) = pathV T a i ++ [.ref (adr T (pathOf a (i + 1)))] := by
  unfold pathV; rw [List.range_succ, List.map_append]; rfl
theorem pathV_len {T : Trie} {a : Int} {i : Nat} : (pathV T a i).length = i + 1 := by unfold pathV; simp
theorem pathV_grow {T T' : Trie} {a : Int} {i : Nat} (h : Grow T T') (all : ∀ j, j ≤ i → (T (pathOf a j)).isSome = true) : pathV T' a i = pathV T a i := by
  unfold pathV
  apply List.map_congr_left
  intro j hj
  obtain ⟨nd, hn⟩ := Option.isSome_iff_exists.mp (all j (by have := List.mem_range.mp hj; omega))
  rw [adr_of hn, adr_of (h.1 _ _ hn)]
theorem Grow.trans {T T' T'' : Trie} (h : Grow T T') (h' : Grow T' T'') : Grow T T'' := ⟨fun p nd e => h'.1 _ _ (h.1 _ _ e), fun p nd e => by
  rcases h'.2 _ _ e with e1 | ⟨e1, e2⟩
  · exact h.2 _ _ e1
  · refine .inr ⟨?_, e2⟩
    cases e3 : T p with
    | none => rfl
    | some z => rw [h.1 _ _ e3] at e1; cases e1⟩
theorem grow_set {T : Trie} {p : Path} {nd : Nd} (h : T p = none) (hr : nd.rs = []) : Grow T (setT T p (some nd)) := ⟨fun q nd' e => by
  rw [setT_other]; exact e
  exact fun z => (by rw [z, h] at e; cases e), fun q nd' e => by
  by_cases hq : q = p
  · subst hq; rw [setT_self] at e; cases e; exact .inr ⟨h, hr⟩
  · rw [setT_other hq] at e; exact .inl e⟩
theorem bit_ch {T : Trie} {p : Path} {a : Int} {i : Nat} : (if bitI a i = 0 then chV T p false else chV T p true) = chV T p (bitB a i) := by
  unfold bitB
  by_cases h : bitI a i = 0
  · rw [if_pos h]; simp [h]
  · rw [if_neg h]; simp [h]
theorem bit_set {T : Trie} {p : Path} {a : Int} {i : Nat} {v : Value} {l : Addr} : (AO.branch (if bitI a i = 0 then v else chV T p false) (if bitI a i = 0 then chV T p true else v) (.ref l)) = .branch (chSet T p (bitB a i) false v) (chSet T p (bitB a i) true v) (.ref l) := by
  unfold chSet bitB
  by_cases h : bitI a i = 0 <;> simp [h]
theorem chV_none {T : Trie} {p : Path} {b : Bool} : (chV T p b == .none) = (T (p ++ [b])).isNone := by
  unfold chV; cases T (p ++ [b]) <;> simp
theorem v_path (G : GP) : Valid G (.ref 201) 3 pathS := by
  refine valid_def (n := 2) [S "self", S "net", S "prefix", S "makes"] [S "self", S "net", S "prefix", S "makes", S "found", S "place", S "bit", S "later"] [S "range", S "bit_at", S "Branch"] 4 (by k_is) (by k_is) ?_ ?_ rfl rfl rfl ?_ ?_ ?_ ?_ rfl rfl ?_
  · rintro vs σ Q ⟨R, root, m, a, K, mk, T, rfl, hK, h0, HT, hQ⟩; rfl
  · intro us hl
    rcases us with _ | ⟨u0, _ | ⟨u1, _ | ⟨u2, _ | ⟨u3, _ | ⟨u4, us⟩⟩⟩⟩⟩ <;> first | (exfalso; simp at hl; done) | rfl
  · decide +kernel
  · decide +kernel
  · decide +kernel
  · decide +kernel
  · rintro c O hnm hgl vs σ Q ⟨R, root, m, a, K, mk, T, rfl, hK, h0, HT, hQ⟩
    show JX G c _ _ (execs (_ :: _) c.env) _ _
    have l0 : LocAt c 0 (S "self") := by unfold LocAt; rw [hnm]; rfl
    have l1 : LocAt c 1 (S "net") := by unfold LocAt; rw [hnm]; rfl
    have l2 : LocAt c 2 (S "prefix") := by unfold LocAt; rw [hnm]; rfl
    have l3 : LocAt c 3 (S "makes") := by unfold LocAt; rw [hnm]; rfl
    have l4 : LocAt c 4 (S "found") := by unfold LocAt; rw [hnm]; rfl
    have l5 : LocAt c 5 (S "place") := by unfold LocAt; rw [hnm]; rfl
    have l6 : LocAt c 6 (S "bit") := by unfold LocAt; rw [hnm]; rfl
    have l7 : LocAt c 7 (S "later") := by unfold LocAt; rw [hnm]; rfl
    have g0 : GlAt c (S "range") := by unfold GlAt; rw [hgl]; simp
    have g1 : GlAt c (S "bit_at") := by unfold GlAt; rw [hgl]; simp
    have g2 : GlAt c (S "Branch") := by unfold GlAt; rw [hgl]; simp
    refine js_cons (js_assign O l4 ?_)
    refine je_list (ja_cons ?_)
    refine je_root O ?_
    walk_at "JWS"
    refine ⟨R, _, _, rfl, h0, .ref, ?_⟩
    walk_at "JWS"
    refine ⟨by simp, fun d hd => ?_⟩
    obtain ⟨nd0, ht0, ha0⟩ := HT.top
    have sb0 : Sub σ (upd σ d (.list [.ref root])) := Sub.upd hd
    refine js_cons ?_
    refine js_for_range O g0 (b_range G) ?_ (fun _ _ _ _ _ hq => go_name hq)
    refine je_loc O l2 rfl ?_
    refine ⟨(K : Int), fun i ρ τ => ∃ T', PInv σ T R root a mk d i ρ τ T', rfl, by omega, by omega, ⟨T, ?_⟩, ?_, ?_⟩
    · refine ⟨rfl, rfl, rfl, rfl, by simp, .refl, fun _ => ⟨rfl, sb0⟩, fun b o e _ => sb0 _ _ e, .upd, .refl, HT.sub sb0, fun j hj => ?_, ?_, fun p nd h e => ?_⟩
      · obtain rfl : j = 0 := by omega
        rw [pathOf_zero, ht0]; rfl
      · rw [upd_self]
        show some _ = some (AO.list [.ref (adr T (pathOf a 0))])
        rw [pathOf_zero, adr_of ht0, ha0]
      · rw [e, HT.lst p nd h] at hd; cases hd
    · rintro k ρ τ ⟨T', I⟩ hk
      have hk' : k < K := by omega
      refine jas_name O l5 ?_
      have e0 : (ρ.set 5 (some (vi k)))[0]? = some (some (.ref R)) := by rw [List.getElem?_set_ne (by decide)]; exact I.e0
      have e1 : (ρ.set 5 (some (vi k)))[1]? = some (some (vi a)) := by rw [List.getElem?_set_ne (by decide)]; exact I.e1
      have e3 : (ρ.set 5 (some (vi k)))[3]? = some (some (.bool mk)) := by rw [List.getElem?_set_ne (by decide)]; exact I.e3
      have e4 : (ρ.set 5 (some (vi k)))[4]? = some (some (.ref d)) := by rw [List.getElem?_set_ne (by decide)]; exact I.e4
      have e5 : (ρ.set 5 (some (vi k)))[5]? = some (some (vi k)) := by rw [List.getElem?_set_self (by have := I.e8; omega)]
      have e8 : 8 ≤ (ρ.set 5 (some (vi k))).length := by rw [List.length_set]; exact I.e8
      generalize ρ.set 5 (some (vi k)) = ρ1 at e0 e1 e3 e4 e5 e8 ⊢
      refine js_cons (js_assign O l6 ?_)
      refine je_call O g1 (t_bit_at G) (v_bit_at G) (by decide) ?_
      refine ja_cons (je_loc O l1 e1 (ja_cons (je_loc O l5 e5 (ja_nil ?_))))
      refine ⟨a, k, rfl, by omega, by omega, ?_⟩
      have f0 : (ρ1.set 6 (some (vi (bitI a k))))[0]? = some (some (.ref R)) := by rw [List.getElem?_set_ne (by decide)]; exact e0
      have f1 : (ρ1.set 6 (some (vi (bitI a k))))[1]? = some (some (vi a)) := by rw [List.getElem?_set_ne (by decide)]; exact e1
      have f3 : (ρ1.set 6 (some (vi (bitI a k))))[3]? = some (some (.bool mk)) := by rw [List.getElem?_set_ne (by decide)]; exact e3
      have f4 : (ρ1.set 6 (some (vi (bitI a k))))[4]? = some (some (.ref d)) := by rw [List.getElem?_set_ne (by decide)]; exact e4
      have f6 : (ρ1.set 6 (some (vi (bitI a k))))[6]? = some (some (vi (bitI a k))) := by rw [List.getElem?_set_self (by omega)]
      have f8 : 8 ≤ (ρ1.set 6 (some (vi (bitI a k)))).length := by rw [List.length_set]; exact e8
      show JX G c (ρ1.set 6 (some (vi (bitI a k)))) _ _ _ _
      generalize ρ1.set 6 (some (vi (bitI a k))) = ρ2 at f0 f1 f3 f4 f6 f8 ⊢
      obtain ⟨nd, hn⟩ := Option.isSome_iff_exists.mp (I.all k (Nat.le_refl _))
      have hadr := adr_of hn
      have hlast : (pathV T' a k)[((-1 : Int) + (pathV T' a k).length).toNat]? = some (.ref nd.a) := by
        rw [pathV_len, show ((-1 : Int) + ((k + 1 : Nat) : Int)).toNat = k by omega]
        unfold pathV
        rw [List.getElem?_map, List.getElem?_range (by omega)]
        show some (Value.ref (adr T' (pathOf a k))) = _
        rw [hadr]
      have hnode := I.trie.node _ _ hn
      refine js_cons (js_assign O l7 ?_)
      refine je_meth (C := 162) (ns := nBranch) O (m_child G) (v_child G) (by decide) ?_
      refine je_sub (je_loc O l4 f4 ?_)
      walk_at "JWS"
      refine ⟨1, rfl, ?_⟩
      show JS2 _ _ _ _ _ _ _ _ _
      refine js2_back I.list (by decide) (by rw [pathV_len]; omega) (by decide) hlast ?_
      refine ⟨nd.a, _, _, rfl, hnode, rfl, rfl, rfl, ?_⟩
      refine ja_cons (je_loc O l6 f6 (ja_nil ?_))
      refine ⟨nd.a, bitI a k, _, _, _, rfl, hnode, chV_plain, chV_plain, .ref, ?_⟩
      rw [bit_ch]
      have p0 : (ρ2.set 7 (some (chV T' (pathOf a k) (bitB a k))))[0]? = some (some (.ref R)) := by rw [List.getElem?_set_ne (by decide)]; exact f0
      have p1 : (ρ2.set 7 (some (chV T' (pathOf a k) (bitB a k))))[1]? = some (some (vi a)) := by rw [List.getElem?_set_ne (by decide)]; exact f1
      have p3 : (ρ2.set 7 (some (chV T' (pathOf a k) (bitB a k))))[3]? = some (some (.bool mk)) := by rw [List.getElem?_set_ne (by decide)]; exact f3
      have p4 : (ρ2.set 7 (some (chV T' (pathOf a k) (bitB a k))))[4]? = some (some (.ref d)) := by rw [List.getElem?_set_ne (by decide)]; exact f4
      have p6 : (ρ2.set 7 (some (chV T' (pathOf a k) (bitB a k))))[6]? = some (some (vi (bitI a k))) := by rw [List.getElem?_set_ne (by decide)]; exact f6
      have p7 : (ρ2.set 7 (some (chV T' (pathOf a k) (bitB a k))))[7]? = some (some (chV T' (pathOf a k) (bitB a k))) := by rw [List.getElem?_set_self (by omega)]
      have p8 : 8 ≤ (ρ2.set 7 (some (chV T' (pathOf a k) (bitB a k)))).length := by rw [List.length_set]; exact f8
      show JX G c (ρ2.set 7 (some (chV T' (pathOf a k) (bitB a k)))) _ _ _ _
      generalize ρ2.set 7 (some (chV T' (pathOf a k) (bitB a k))) = ρ3 at p0 p1 p3 p4 p6 p7 p8 ⊢
      refine js_seq (fun ρ' τ' => ∃ T2 nd2, ρ'[0]? = some (some (.ref R)) ∧ ρ'[1]? = some (some (vi a)) ∧ ρ'[3]? = some (some (.bool mk)) ∧ ρ'[4]? = some (some (.ref d)) ∧ ρ'[7]? = some (some (.ref (Nd.a nd2))) ∧ 8 ≤ ρ'.length ∧ Grow T' T2 ∧ (mk = false → T2 = T ∧ Sub σ τ') ∧ FramB σ τ' ∧ Dom σ τ' ∧ Lsub T T2 σ ∧ TrieAt τ' T2 root ∧ T2 (pathOf a (k + 1)) = some nd2 ∧ τ' d = some (.list (pathV T' a k)) ∧ (∀ p nd, T2 p = some nd → d ≠ nd.l)) ?_ ?_
      rotate_left
      · rintro ρ' τ' ⟨T2, nd2, k0, k1, k3, k4, k7, k8, hg, hs, hf, hdm, hls, htr, h2, hdl, hoff⟩
        refine js_cons (js_expr ?_ (inter O))
        refine je_append ?_
        refine je_loc O l4 k4 ⟨d, _, rfl, hdl, ?_⟩
        refine je_loc O l7 k7 ⟨_, hdl, by rw [pathV_len]; omega, rfl, ?_⟩
        have hg' := I.grow.trans hg
        have hnd : ∀ p nd, T2 p = some nd → d ≠ nd.a ∧ d ≠ nd.l ∧ ∀ q ∈ nd.rs, d ≠ q.1 := fun p nd h => ⟨fun e => (by rw [e, htr.node _ _ h] at hdl; cases hdl), hoff _ _ h, fun q hq e => (by rw [e, htr.rts _ _ h q hq] at hdl; cases hdl)⟩
        refine js_nil ⟨T2, k0, k1, k3, k4, k8, hg', fun hm => ⟨(hs hm).1, fun b o e => ?_⟩, fun b o e hb => ?_, hdm.trans .upd, hls, htr.other hnd, fun j hj => ?_, ?_, hoff⟩
        · rw [upd_other]; exact (hs hm).2 b o e
          rintro rfl; rw [hd] at e; cases e
        · rw [upd_other]; exact hf b o e hb
          rintro rfl; rw [hd] at e; cases e
        · by_cases hjk : j = k + 1
          · rw [hjk, h2]; rfl
          · obtain ⟨z, hz⟩ := Option.isSome_iff_exists.mp (I.all j (by omega))
            rw [hg.1 _ _ hz]; rfl
        · rw [upd_self, pathV_snoc, adr_of h2, pathV_grow hg I.all]
      refine js_if (jt_cmp (je_loc O l7 p7 (je_none (jc_is_none (asB ?_)))))
      rw [chV_none, ← pathOf_succ]
      refine ⟨fun hb => ?_, fun hb => ?_⟩
      · have hnone : T' (pathOf a (k + 1)) = none := Option.isNone_iff_eq_none.mp hb
        refine js_cons (js_if (jt_not (jt_val (je_loc O l3 p3 ⟨mk, rfl, ?_⟩))))
        refine ⟨fun hm => ?_, fun hm => ?_⟩
        · have hm' : mk = false := by simpa using hm
          refine js_cons (js_ret (je_loc O l4 p4 ?_))
          refine hQ τ T' k d ⟨hd, by omega, I.grow, I.same, I.fram, I.dom, I.lsub, I.trie, I.all, .inr ⟨hm', ?_⟩, I.list, I.off⟩
          rw [← (I.same hm').1]; exact hnone
        · have hm' : mk = true := by simpa using hm
          refine js_nil ?_
          refine js_cons (js_assign O l7 ?_)
          refine je_call0 O g2 (t_Branch G) (v_Branch G) (by decide) ⟨rfl, fun x l hx hl hlx => ?_⟩
          have q0 : (ρ3.set 7 (some (.ref x)))[0]? = some (some (.ref R)) := by rw [List.getElem?_set_ne (by decide)]; exact p0
          have q1 : (ρ3.set 7 (some (.ref x)))[1]? = some (some (vi a)) := by rw [List.getElem?_set_ne (by decide)]; exact p1
          have q3 : (ρ3.set 7 (some (.ref x)))[3]? = some (some (.bool mk)) := by rw [List.getElem?_set_ne (by decide)]; exact p3
          have q4 : (ρ3.set 7 (some (.ref x)))[4]? = some (some (.ref d)) := by rw [List.getElem?_set_ne (by decide)]; exact p4
          have q6 : (ρ3.set 7 (some (.ref x)))[6]? = some (some (vi (bitI a k))) := by rw [List.getElem?_set_ne (by decide)]; exact p6
          have q7 : (ρ3.set 7 (some (.ref x)))[7]? = some (some (.ref x)) := by rw [List.getElem?_set_self (by omega)]
          have q8 : 8 ≤ (ρ3.set 7 (some (.ref x))).length := by rw [List.length_set]; exact p8
          show JX G c (ρ3.set 7 (some (.ref x))) _ _ _ _
          generalize ρ3.set 7 (some (.ref x)) = ρ4 at q0 q1 q3 q4 q6 q7 q8 ⊢
          have hdx : d ≠ x := by rintro rfl; rw [I.list] at hx; cases hx
          have hdl : d ≠ l := by rintro rfl; rw [I.list] at hl; cases hl
          have hax : nd.a ≠ x := Ne.symm (I.trie.fresh hx hn).1
          have hal : nd.a ≠ l := Ne.symm (I.trie.fresh hl hn).1
          have hda : d ≠ nd.a := by intro e; have := I.list; rw [e, hnode] at this; cases this
          refine js_cons (js_expr ?_ (inter O))
          refine je_meth (C := 162) (ns := nBranch) O (m_set_child G) (v_set_child G) (by decide) ?_
          refine je_sub (je_loc O l4 q4 ?_)
          walk_at "JWS"
          refine ⟨1, rfl, ?_⟩
          show JS2 _ _ _ _ _ _ _ _ _
          refine js2_back (by rw [upd_other hdx, upd_other hdl]; exact I.list) (by decide) (by rw [pathV_len]; omega) (by decide) hlast ?_
          have hnode' : upd (upd τ l (.list [])) x (.branch .none .none (.ref l)) nd.a = some (.branch (chV T' (pathOf a k) false) (chV T' (pathOf a k) true) (.ref nd.l)) := by rw [upd_other hax, upd_other hal]; exact hnode
          refine ⟨nd.a, _, _, rfl, hnode', rfl, rfl, rfl, ?_⟩
          refine ja_cons (je_loc O l6 q6 (ja_cons (je_loc O l7 q7 (ja_nil ?_))))
          refine ⟨nd.a, bitI a k, .ref x, _, _, _, rfl, hnode', rfl, ?_⟩
          rw [bit_set]
          have HG := I.trie.grow (b := bitB a k) hn (by rw [← pathOf_succ]; exact hnone) hx hl hlx (by rw [pathOf_len]; omega)
          rw [← pathOf_succ] at HG
          refine js_nil ⟨_, ⟨x, l, []⟩, q0, q1, q3, q4, q7, q8, grow_set hnone rfl, fun h => (by rw [hm'] at h; cases h), ?_, I.dom.trans (Dom.upd.trans (Dom.upd.trans .upd)), ?_, HG, setT_self, ?_, ?_⟩
          · intro b o e hbr
            have eb := I.fram b o e hbr
            rw [upd_other, upd_other, upd_other]; exact eb
            · rintro rfl; rw [hl] at eb; cases eb
            · rintro rfl; rw [hx] at eb; cases eb
            · rintro rfl; rw [hnode] at eb; cases eb; cases hbr
          · intro p nd' h
            by_cases hp : p = pathOf a (k + 1)
            · subst hp
              rw [setT_self] at h; cases h
              right
              show σ l = none
              exact I.dom l hl
            · rw [setT_other hp] at h; exact I.lsub p nd' h
          · rw [upd_other hda, upd_other hdx, upd_other hdl]; exact I.list
          · intro p nd' h
            by_cases hp : p = pathOf a (k + 1)
            · subst hp
              rw [setT_self] at h; cases h; exact hdl
            · rw [setT_other hp] at h; exact I.off p nd' h
      · obtain ⟨nd2, hn2⟩ := Option.isSome_iff_exists.mp (by cases h : T' (pathOf a (k + 1)) with | none => rw [h] at hb; cases hb | some z => rfl : (T' (pathOf a (k + 1))).isSome = true)
        have hc : chV T' (pathOf a k) (bitB a k) = .ref nd2.a := by unfold chV; rw [← pathOf_succ, hn2]
        rw [hc] at p7
        exact js_nil ⟨T', nd2, p0, p1, p3, p4, p7, p8, .refl, fun h => I.same h, I.fram, I.dom, I.lsub, I.trie, hn2, I.list, I.off⟩
    · rintro ρ τ ⟨T', I⟩
      rw [show ((K : Int)).toNat = K by omega] at I
      refine js_cons (js_ret (je_loc O l4 I.e4 ?_))
      exact hQ τ T' K d ⟨hd, Nat.le_refl _, I.grow, I.same, I.fram, I.dom, I.lsub, I.trie, I.all, .inl rfl, I.list, I.off⟩
end Mine
end

section
open PySem PySem.W PyProof.Rows PySem.Spec PySem.Calls
namespace Mine

noncomputable def Less (T T' : Trie) : Prop := (∀ p nd, T' p = some nd → T p = some nd) ∧ ∀ p, cts T' p = cts T p
theorem Less.refl {T : Trie} : Less T T := ⟨fun _ _ h => h, fun _ => rfl⟩
theorem Less.trans {T T' T'' : Trie} (h : Less T T') (k : Less T' T'') : Less T T'' := ⟨fun p nd e => h.1 _ _ (k.1 _ _ e), fun p => (k.2 p).trans (h.2 p)⟩
theorem less_cut {T : Trie} {p : Path} {nd : Nd} (h : T p = some nd) (hr : nd.rs = []) : Less T (setT T p none) := ⟨fun q nd' e => by
  by_cases hq : q = p
  · subst hq; rw [setT_self] at e; cases e
  · rw [setT_other hq] at e; exact e, fun q => by
  unfold cts
  by_cases hq : q = p
  · subst hq; rw [setT_self, h]; exact hr.symm
  · rw [setT_other hq]⟩
theorem FramB.refl {σ : AH} : FramB σ σ := fun _ _ h _ => h
noncomputable def pruneS : SpecT := fun vs σ Q => ∃ (R root d : Addr) (a : Int) (j : Nat) (T : Trie), vs = [.ref R, vi a, .ref d] ∧ j ≤ 32 ∧ TrieAt σ T root ∧ (∀ i, i ≤ j → (T (pathOf a i)).isSome = true) ∧ σ d = some (.list (pathV T a j)) ∧
  ∀ τ T', Less T T' → FramB σ τ → Dom σ τ → TrieAt τ T' root → Q .none τ
structure QInv (σ : AH) (T : Trie) (root : Addr) (a : Int) (d : Addr) (j k : Nat) (ρ : LE) (τ : AH) (T' : Trie) : Prop where
  e1 : ρ[1]? = some (some (vi a))
  e2 : ρ[2]? = some (some (.ref d))
  e3 : ρ[3]? = some (some (vi k))
  e4 : 4 ≤ ρ.length
  kj : k ≤ j
  less : Less T T'
  fram : FramB σ τ
  dom : Dom σ τ
  trie : TrieAt τ T' root
  all : ∀ i, i ≤ k → T' (pathOf a i) = T (pathOf a i)
theorem pathV_get {T : Trie} {a : Int} {i j : Nat} {nd : Nd} (h : i ≤ j) (hn : T (pathOf a i) = some nd) : (pathV T a j)[i]? = some (.ref nd.a) := by
  unfold pathV
  rw [List.getElem?_map, List.getElem?_range (by omega)]
  show some (Value.ref (adr T (pathOf a i))) = _
  rw [adr_of hn]
theorem chV_eq_none {T : Trie} {p : Path} {b : Bool} (h : (chV T p b == .none) = true) : T (p ++ [b]) = none := by
  rw [chV_none] at h; exact Option.isNone_iff_eq_none.mp h
theorem v_prune (G : GP) : Valid G (.ref 227) 3 pruneS := by
  refine valid_def (n := 2) [S "self", S "net", S "path"] [S "self", S "net", S "path", S "at"] [S "len", S "bit_at"] 3 (by k_is) (by k_is) ?_ ?_ rfl rfl rfl ?_ ?_ ?_ ?_ rfl rfl ?_
  · rintro vs σ Q ⟨R, root, d, a, j, T, rfl, hj, HT, hall, hd, hQ⟩; rfl
  · intro us hl
    rcases us with _ | ⟨u0, _ | ⟨u1, _ | ⟨u2, _ | ⟨u3, us⟩⟩⟩⟩ <;> first | (exfalso; simp at hl; done) | rfl
  · decide +kernel
  · decide +kernel
  · decide +kernel
  · decide +kernel
  · rintro c O hnm hgl vs σ Q ⟨R, root, d, a, j, T, rfl, hj, HT, hall, hd, hQ⟩
    show JX G c _ _ (execs (_ :: _) c.env) _ _
    have l0 : LocAt c 0 (S "self") := by unfold LocAt; rw [hnm]; rfl
    have l1 : LocAt c 1 (S "net") := by unfold LocAt; rw [hnm]; rfl
    have l2 : LocAt c 2 (S "path") := by unfold LocAt; rw [hnm]; rfl
    have l3 : LocAt c 3 (S "at") := by unfold LocAt; rw [hnm]; rfl
    have g0 : GlAt c (S "len") := by unfold GlAt; rw [hgl]; simp
    have g1 : GlAt c (S "bit_at") := by unfold GlAt; rw [hgl]; simp
    refine js_cons (js_assign O l3 ?_)
    refine je_bin ?_
    refine je_len O g0 (b_len G) ?_
    walk_at "JWS"
    refine ⟨d, _, rfl, hd, by rw [pathV_len]; omega, ?_⟩
    walk_at "JWS"
    rw [pathV_len, show (((j + 1 : Nat) : Int) - 1) = (j : Int) by omega]
    refine js_while (I := fun k ρ τ => ∃ T', QInv σ T root a d j k ρ τ T') (k := j) ⟨T, rfl, rfl, rfl, by simp, Nat.le_refl _, .refl, .refl, .refl, HT, fun _ _ => rfl⟩ ?_
    rintro k ρ τ ⟨T', I⟩
    have hdτ : τ d = some (.list (pathV T a j)) := I.fram _ _ hd rfl
    refine jt_bool (jal_and (jt_cmp (je_loc O l3 I.e3 (je_int (jc_gt (asB ?_))))))
    refine ⟨fun hb => ?_, fun hb => ⟨fun h => (by cases h), fun _ => js_nil (hQ τ T' I.less I.fram I.dom I.trie)⟩⟩
    have hk : 0 < k := by simpa using hb
    obtain ⟨nd, hn⟩ := Option.isSome_iff_exists.mp (hall k I.kj)
    have hn' : T' (pathOf a k) = some nd := by rw [I.all k (Nat.le_refl _)]; exact hn
    have hnode := I.trie.node _ _ hn'
    have hlst := I.trie.lst _ _ hn'
    refine jal_and (jt_val ?_)
    refine je_meth0 (C := 162) (ns := nBranch) O (m_is_bare G) (v_is_bare G) (by decide) ?_
    refine je_sub (je_loc O l2 I.e2 (je_loc O l3 I.e3 ?_))
    show JS2 _ _ _ _ _ _ _ _ _
    refine js2_list hdτ (by omega) (by have := I.kj; omega) (pathV_get I.kj hn) ?_
    refine ⟨nd.a, _, _, rfl, hnode, rfl, rfl, rfl, ?_⟩
    refine ⟨nd.a, nd.l, _, _, _, rfl, hnode, chV_plain, chV_plain, hlst, ?_⟩
    refine ⟨_, rfl, fun hc => ?_, fun hc => ⟨fun h => (by cases h), fun _ => js_nil (hQ τ T' I.less I.fram I.dom I.trie)⟩⟩
    refine jal_and0 ⟨fun _ => ?_, fun h => (by cases h)⟩
    simp only [Bool.and_eq_true] at hc
    obtain ⟨⟨c1, c2⟩, c3⟩ := hc
    have hrs : nd.rs = [] := by cases h : nd.rs with
      | nil => rfl
      | cons x y => rw [h] at c1; cases c1
    obtain ⟨i, rfl⟩ : ∃ i, k = i + 1 := ⟨k - 1, by omega⟩
    obtain ⟨nd0, hn0⟩ := Option.isSome_iff_exists.mp (hall i (by have := I.kj; omega))
    have hn0' : T' (pathOf a i) = some nd0 := by rw [I.all i (by omega)]; exact hn0
    have hnode0 := I.trie.node _ _ hn0'
    have ki := I.kj
    refine js_cons (js_expr ?_ (inter O))
    refine je_meth (C := 162) (ns := nBranch) O (m_set_child G) (v_set_child G) (by decide) ?_
    refine je_sub (je_loc O l2 I.e2 (je_bin (je_loc O l3 I.e3 (je_int (jb_sub ?_)))))
    rw [show (((i + 1 : Nat) : Int) - 1) = (i : Int) by omega]
    show JS2 _ _ _ _ _ _ _ _ _
    refine js2_list hdτ (by omega) (by omega) (pathV_get (by omega) hn0) ?_
    refine ⟨nd0.a, _, _, rfl, hnode0, rfl, rfl, rfl, ?_⟩
    refine ja_cons ?_
    refine je_call O g1 (t_bit_at G) (v_bit_at G) (by decide) ?_
    refine ja_cons (je_loc O l1 I.e1 (ja_cons (je_bin (je_loc O l3 I.e3 (je_int (jb_sub (ja_nil ?_)))))))
    rw [show (((i + 1 : Nat) : Int) - 1) = (i : Int) by omega]
    refine ⟨a, i, rfl, by omega, by omega, ?_⟩
    refine ja_cons (je_none (ja_nil ?_))
    refine ⟨nd0.a, bitI a i, .none, _, _, _, rfl, hnode0, rfl, ?_⟩
    rw [bit_set]
    refine js_cons (js_assign O l3 (je_bin (je_loc O l3 I.e3 (je_int (jb_sub ?_)))))
    rw [show (((i + 1 : Nat) : Int) - 1) = (i : Int) by omega]
    have hx : T' (pathOf a i ++ [bitB a i]) = some nd := by rw [← pathOf_succ]; exact hn'
    refine js_nil ⟨i, Nat.lt_succ_self _, setT T' (pathOf a i ++ [bitB a i]) none, ?_, ?_, ?_, ?_, by omega, I.less.trans (less_cut hx hrs), ?_, I.dom.trans .upd, ?_, ?_⟩
    · rw [List.getElem?_set_ne (by decide)]; exact I.e1
    · rw [List.getElem?_set_ne (by decide)]; exact I.e2
    · rw [List.getElem?_set_self (by have := I.e4; omega)]
    · rw [List.length_set]; exact I.e4
    · intro b o e hbr
      have eb := I.fram b o e hbr
      rw [upd_other]; exact eb
      rintro rfl; rw [hnode0] at eb; cases eb; cases hbr
    · refine I.trie.cut hn0' hx fun c => ?_
      rw [← pathOf_succ]
      cases c
      · exact chV_eq_none c2
      · exact chV_eq_none c3
    · intro t ht
      rw [setT_other, I.all t (by omega)]
      intro e
      have := congrArg List.length e
      rw [← pathOf_succ, pathOf_len, pathOf_len] at this
      omega

noncomputable def hitR (q r : Addr × Row) : Bool := (r.2.g == q.2.g) && (r.2.f == q.2.f)
noncomputable def putR (q : Addr × Row) : List (Addr × Row) → List (Addr × Row)
  | [] => [q]
  | r :: rs => if hitR q r then q :: rs else r :: putR q rs
theorem putR_hit {q : Addr × Row} : ∀ {rs : List (Addr × Row)} {k : Nat} {r : Addr × Row}, rs[k]? = some r → hitR q r = true → (∀ i r', i < k → rs[i]? = some r' → hitR q r' = false) → putR q rs = rs.set k q
  | [], k, r, h, _, _ => by simp at h
  | x :: rs, 0, r, h, h1, _ => by
    simp only [List.getElem?_cons_zero, Option.some.injEq] at h
    subst h; unfold putR; rw [if_pos h1]; rfl
  | x :: rs, k + 1, r, h, h1, h2 => by
    have hx : ¬ hitR q x = true := by rw [h2 0 x (by omega) rfl]; simp
    unfold putR; rw [if_neg hx]
    rw [putR_hit (rs := rs) (k := k) h h1 fun i r' hi e => h2 (i + 1) r' (by omega) e]; rfl
theorem putR_none {q : Addr × Row} : ∀ {rs : List (Addr × Row)}, (∀ r ∈ rs, hitR q r = false) → putR q rs = rs ++ [q]
  | [], _ => rfl
  | x :: rs, h => by
    have hx : ¬ hitR q x = true := by rw [h x (.head _)]; simp
    unfold putR; rw [if_neg hx, putR_none fun r hr => h r (.tail _ hr)]; rfl
noncomputable def setC (C : Path → List (Addr × Row)) (p : Path) (rs : List (Addr × Row)) : Path → List (Addr × Row) := fun q => if q = p then rs else C q
theorem cts_set {T : Trie} {p : Path} {nd : Nd} : cts (setT T p (some nd)) = setC (cts T) p nd.rs := funext fun q => by
  unfold cts setC
  by_cases h : q = p
  · subst h; rw [setT_self, if_pos rfl]
  · rw [setT_other h, if_neg h]
structure Mut (σ : AH) (T : Trie) (R root : Addr) (τ : AH) (T' : Trie) (m' : Int) : Prop where
  trie : TrieAt τ T' root
  at_ : τ R = some (.routes (.ref root) m')
  fram : Fram T R σ τ
  dom : Dom σ τ
  lsub : Lsub T T' σ
structure Good (r : Row) : Prop where
  n0 : 0 ≤ r.n
  n1 : r.n ≤ 4294967295
  p0 : 0 ≤ r.p
  p1 : r.p ≤ 32
  g0 : 0 ≤ r.g
  g1 : r.g ≤ 4294967295
  net : netI r.n r.p = r.n
noncomputable def Row.path (r : Row) : Path := pathOf r.n r.p.toNat
noncomputable def addS : SpecT := fun vs σ Q => ∃ (R root x : Addr) (m : Int) (T : Trie) (r : Row), vs = [.ref R, .ref x] ∧ σ R = some (.routes (.ref root) m) ∧ TrieAt σ T root ∧ σ x = some r.ao ∧ Good r ∧ (cts T r.path).length ≤ 900 ∧
  ∀ τ T', Mut σ T R root τ T' (m + (putR (x, r) (cts T r.path)).length - (cts T r.path).length) → cts T' = setC (cts T) r.path (putR (x, r) (cts T r.path)) → Q .none τ
theorem map_set_ref {rs : List (Addr × Row)} {k : Nat} {q : Addr × Row} : (rs.map fun q => Value.ref q.1).set k (.ref q.1) = (rs.set k q).map fun q => Value.ref q.1 := by
  rw [List.map_set]
theorem v_add (G : GP) : Valid G (.ref 208) 4 addS := by
  refine valid_def (n := 3) [S "self", S "route"] [S "self", S "route", S "net", S "branch", S "at", S "other"] [S "ALL", S "RouteError", S "net_of", S "range", S "len"] 2 (by k_is) (by k_is) ?_ ?_ rfl rfl rfl ?_ ?_ ?_ ?_ rfl rfl ?_
  · rintro vs σ Q ⟨R, root, x, m, T, r, rfl, h0, HT, hx, hr, hz, hQ⟩; rfl
  · intro us hl
    rcases us with _ | ⟨u0, _ | ⟨u1, _ | ⟨u2, us⟩⟩⟩ <;> first | (exfalso; simp at hl; done) | rfl
  · decide +kernel
  · decide +kernel
  · decide +kernel
  · decide +kernel
  · rintro c O hnm hgl vs σ Q ⟨R, root, x, m, T, r, rfl, h0, HT, hx, hr, hz, hQ⟩
    show JX G c _ _ (execs (_ :: _) c.env) _ _
    have l0 : LocAt c 0 (S "self") := by unfold LocAt; rw [hnm]; rfl
    have l1 : LocAt c 1 (S "route") := by unfold LocAt; rw [hnm]; rfl
    have l2 : LocAt c 2 (S "net") := by unfold LocAt; rw [hnm]; rfl
    have l3 : LocAt c 3 (S "branch") := by unfold LocAt; rw [hnm]; rfl
    have l4 : LocAt c 4 (S "at") := by unfold LocAt; rw [hnm]; rfl
    have l5 : LocAt c 5 (S "other") := by unfold LocAt; rw [hnm]; rfl
    have g0 : GlAt c (S "ALL") := by unfold GlAt; rw [hgl]; simp
    have g1 : GlAt c (S "RouteError") := by unfold GlAt; rw [hgl]; simp
    have g2 : GlAt c (S "net_of") := by unfold GlAt; rw [hgl]; simp
    have g3 : GlAt c (S "range") := by unfold GlAt; rw [hgl]; simp
    have g4 : GlAt c (S "len") := by unfold GlAt; rw [hgl]; simp
    have rt : ∀ {τ : AH} {k : Int → Int → Int → Int → Int → Prop}, τ x = some r.ao → k r.n r.p r.g r.f r.m → RtAt τ (.ref x) k := fun h hk => ⟨x, _, _, _, _, _, rfl, h, hk⟩
    refine js_cons (js_if ?_)
    refine jt_bool (jal_or (jt_cmp (je_net O (je_loc O l1 rfl (rt hx (je_int (jc_lt (asB ?_))))))))
    refine ⟨fun hb => absurd (by simpa using hb : r.n < 0) (by have := hr.n0; omega), fun _ => ?_⟩
    refine jal_or (jt_cmp (je_net O (je_loc O l1 rfl (rt hx (je_gint O g0 (by k_is) (jc_gt (asB ?_)))))))
    refine ⟨fun hb => absurd (by simpa using hb : 4294967295 < r.n) (by have := hr.n1; omega), fun _ => ?_⟩
    refine jal_or (jt_cmp (je_gateway O (je_loc O l1 rfl (rt hx (je_int (jc_lt (asB ?_)))))))
    refine ⟨fun hb => absurd (by simpa using hb : r.g < 0) (by have := hr.g0; omega), fun _ => ?_⟩
    refine jal_or (jt_cmp (je_gateway O (je_loc O l1 rfl (rt hx (je_gint O g0 (by k_is) (jc_gt (asB ?_)))))))
    refine ⟨fun hb => absurd (by simpa using hb : 4294967295 < r.g) (by have := hr.g1; omega), fun _ => ?_⟩
    refine jal_or0 ⟨fun h => (by cases h), fun _ => js_nil ?_⟩
    refine js_cons (js_assign O l2 ?_)
    refine je_call O g2 (t_net_of G) (v_net_of G) (by decide) ?_
    refine ja_cons (je_net O (je_loc O l1 rfl (rt hx (ja_cons (je_prefix O (je_loc O l1 rfl (rt hx (ja_nil ?_))))))))
    refine ⟨r.n, r.p, rfl, hr.n0, hr.n1, hr.p0, hr.p1, ?_⟩
    rw [hr.net]
    refine js_cons (js_if (jt_cmp (je_loc O l2 rfl (je_net O (je_loc O l1 rfl (rt hx (jc_ne (asB ?_))))))))
    refine ⟨fun hb => (by simp at hb), fun _ => js_nil ?_⟩
    refine js_cons (js_assign O l3 ?_)
    refine je_sub ?_
    refine je_meth (C := 244) (ns := nRoutes) O (m_path G) (v_path G) (by decide) ?_
    refine je_loc O l0 rfl ⟨R, _, _, rfl, h0, rfl, rfl, rfl, ?_⟩
    refine ja_cons (je_loc O l2 rfl (ja_cons (je_prefix O (je_loc O l1 rfl (rt hx (ja_cons (je_bool (ja_nil ?_))))))))
    have hp0 := hr.p0
    have hp1 := hr.p1
    refine ⟨R, root, m, r.n, r.p.toNat, true, T, by rw [show ((r.p.toNat : Nat) : Int) = r.p by omega], by omega, h0, HT, fun τ T1 j d P => ?_⟩
    obtain rfl : j = r.p.toNat := by rcases P.stop with h | ⟨h, _⟩; exact h; cases h
    walk_at "JWS"
    refine ⟨1, rfl, ?_⟩
    obtain ⟨nd, hn⟩ := Option.isSome_iff_exists.mp (P.all _ (Nat.le_refl _))
    have hcts : cts T r.path = nd.rs := by rw [← P.grow.cts]; unfold cts Row.path; rw [hn]
    show JS2 _ _ _ _ _ _ _ _ _
    refine js2_back P.list (by decide) (by rw [pathV_len]; omega) (by decide) (v := .ref nd.a) ?_ ?_
    · rw [pathV_len, show ((-1 : Int) + ((r.p.toNat + 1 : Nat) : Int)).toNat = r.p.toNat by omega]
      exact pathV_get (Nat.le_refl _) hn
    have hnode := P.trie.node _ _ hn
    have hlst := P.trie.lst _ _ hn
    have hrts := P.trie.rts _ _ hn
    have hxτ : τ x = some r.ao := P.fram _ _ hx rfl
    have hRτ : τ R = some (.routes (.ref root) m) := P.fram _ _ h0 rfl
    rw [hcts] at hz hQ
    have br : ∀ {τ : AH} {k : Value → Value → Value → Prop}, τ nd.a = some (.branch (chV T1 (pathOf r.n r.p.toNat) false) (chV T1 (pathOf r.n r.p.toNat) true) (.ref nd.l)) → k (chV T1 (pathOf r.n r.p.toNat) false) (chV T1 (pathOf r.n r.p.toNat) true) (.ref nd.l) → BrAt τ (.ref nd.a) k := fun h hk => ⟨nd.a, _, _, _, rfl, h, chV_plain, chV_plain, .ref, hk⟩
    have done : ∀ (rs' : List (Addr × Row)) (τ2 : AH) (m' : Int), rs' = putR (x, r) nd.rs → m' = m + rs'.length - nd.rs.length → τ2 R = some (.routes (.ref root) m') → τ2 nd.l = some (.list (rs'.map fun q => .ref q.1)) → (∀ b, b ≠ R → b ≠ nd.l → τ2 b = τ b) → Q .none τ2 := by
      intro rs' τ2 m' e1 e2 hR hl hb
      have aR : ∀ {b : Addr} {o : AO}, τ b = some o → (∀ s z, o ≠ .routes s z) → b ≠ R := fun e k q => by
        rw [q, hRτ] at e; cases e; exact k _ _ rfl
      have lR : nd.l ≠ R := aR hlst fun _ _ => by simp
      have dl : ∀ {b : Addr} {o : AO}, τ b = some o → (∀ z, o ≠ .list z) → b ≠ nd.l := fun e k q => by
        rw [q, hlst] at e; cases e; exact k _ rfl
      have keep : ∀ {b : Addr} {o : AO}, τ b = some o → (∀ s z, o ≠ .routes s z) → (∀ z, o ≠ .list z) → τ2 b = some o := fun {b o} e k1 k2 => by
        rw [hb b (aR e k1) (dl e k2)]; exact e
      have hrts' : RtsAt τ2 rs' := by
        intro q hq
        have : q ∈ nd.rs ∨ q = (x, r) := by
          rw [e1] at hq
          clear e1 e2 hl hQ hlst hrts
          generalize nd.rs = l at hq
          induction l with
          | nil => right; simpa [putR] using hq
          | cons y l ih =>
            unfold putR at hq
            split at hq
            · rcases List.mem_cons.mp hq with h | h
              · exact .inr h
              · exact .inl (.tail _ h)
            · rcases List.mem_cons.mp hq with h | h
              · exact .inl (h ▸ .head _)
              · rcases ih h with h | h
                · exact .inl (.tail _ h)
                · exact .inr h
        rcases this with h | rfl
        · exact keep (hrts q h) (fun _ _ => by simp [Row.ao]) (fun _ => by simp [Row.ao])
        · exact keep hxτ (fun _ _ => by simp [Row.ao]) (fun _ => by simp [Row.ao])
      have HT2 : TrieAt τ2 (setT T1 (pathOf r.n r.p.toNat) (some ⟨nd.a, nd.l, rs'⟩)) root := by
        refine P.trie.turn hn (keep hnode (fun _ _ => by simp) (fun _ => by simp)) hl hrts' (fun q nd' h hq => ⟨?_, ?_, ?_⟩) (fun q nd' h hq r' hr' => ?_)
        · exact (keep (P.trie.node _ _ h) (fun _ _ => by simp) (fun _ => by simp)).trans (P.trie.node _ _ h).symm
        · have hl' : nd'.l ≠ nd.l := fun e => hq (P.trie.injL _ _ _ _ h hn e)
          exact hb _ (aR (P.trie.lst _ _ h) fun _ _ => by simp) hl'
        · exact fun e => hq (P.trie.injL _ _ _ _ h hn e.symm)
        · exact (keep (P.trie.rts _ _ h r' hr') (fun _ _ => by simp [Row.ao]) (fun _ => by simp [Row.ao])).trans (P.trie.rts _ _ h r' hr').symm
      refine hQ τ2 _ ⟨HT2, by rw [hR, e2, e1], fun b o e hbr hbR hbl => ?_, fun b e => ?_, fun p nd' h => ?_⟩ ?_
      · have eb := P.fram b o e hbr
        rw [hb b hbR]; exact eb
        rintro rfl
        rcases P.lsub _ _ hn with ⟨q, nd2, h2, h3⟩ | h2
        · exact hbl _ _ h2 h3.symm
        · rw [h2] at e; cases e
      · refine P.dom b ?_
        by_cases h1 : b = R
        · rw [h1, hR] at e; cases e
        · by_cases h2 : b = nd.l
          · rw [h2, hl] at e; cases e
          · rw [hb b h1 h2] at e; exact e
      · by_cases hp : p = pathOf r.n r.p.toNat
        · subst hp; rw [setT_self] at h; cases h
          exact (P.lsub _ _ hn : (∃ q nd0, T q = some nd0 ∧ nd0.l = nd.l) ∨ σ nd.l = none)
        · rw [setT_other hp] at h; exact P.lsub _ _ h
      · rw [cts_set, ← e1]
        show setC (cts T1) _ _ = setC (cts T) _ _
        rw [show cts T1 = cts T from funext fun q => P.grow.cts q]; rfl
    refine js_cons ?_
    refine js_for_range O g3 (b_range G) ?_ (fun _ _ _ _ _ hq => go_name hq)
    refine je_len O g4 (b_len G) ?_
    refine je_routes O (je_loc O l3 rfl (br hnode ⟨nd.l, _, rfl, hlst, by rw [List.length_map]; omega, ?_⟩))
    rw [List.length_map]
    refine ⟨(nd.rs.length : Int), fun i ρ τ' => τ' = τ ∧ ρ[0]? = some (some (.ref R)) ∧ ρ[1]? = some (some (.ref x)) ∧ ρ[3]? = some (some (.ref nd.a)) ∧ 6 ≤ ρ.length ∧ (∀ i' r', i' < i → nd.rs[i']? = some r' → hitR (x, r) r' = false), rfl, by omega, by omega, ⟨rfl, rfl, rfl, rfl, by simp, fun i' r' h => absurd h (Nat.not_lt_zero _)⟩, ?_, ?_⟩
    · rintro k ρ τ' ⟨rfl, e0, e1, e3, e6, hno⟩ hk
      obtain ⟨q, hq⟩ : ∃ q, nd.rs[k]? = some q := ⟨_, List.getElem?_eq_getElem (by omega)⟩
      have hqm : q ∈ nd.rs := List.mem_of_getElem? hq
      have hqv : (nd.rs.map fun q => Value.ref q.1)[k]? = some (.ref q.1) := by rw [List.getElem?_map, hq]; rfl
      refine jas_name O l4 ?_
      have f0 : (ρ.set 4 (some (vi k)))[0]? = some (some (.ref R)) := by rw [List.getElem?_set_ne (by decide)]; exact e0
      have f1 : (ρ.set 4 (some (vi k)))[1]? = some (some (.ref x)) := by rw [List.getElem?_set_ne (by decide)]; exact e1
      have f3 : (ρ.set 4 (some (vi k)))[3]? = some (some (.ref nd.a)) := by rw [List.getElem?_set_ne (by decide)]; exact e3
      have f4 : (ρ.set 4 (some (vi k)))[4]? = some (some (vi k)) := by rw [List.getElem?_set_self (by omega)]
      have f6 : 6 ≤ (ρ.set 4 (some (vi k))).length := by rw [List.length_set]; exact e6
      generalize ρ.set 4 (some (vi k)) = ρ1 at f0 f1 f3 f4 f6 ⊢
      refine js_cons (js_assign O l5 ?_)
      refine je_sub (je_routes O (je_loc O l3 f3 (br hnode (je_loc O l4 f4 ?_))))
      show JS2 _ _ _ _ _ _ _ _ _
      refine js2_list hlst (by omega) (by omega) hqv ?_
      have p0 : (ρ1.set 5 (some (.ref q.1)))[0]? = some (some (.ref R)) := by rw [List.getElem?_set_ne (by decide)]; exact f0
      have p1 : (ρ1.set 5 (some (.ref q.1)))[1]? = some (some (.ref x)) := by rw [List.getElem?_set_ne (by decide)]; exact f1
      have p3 : (ρ1.set 5 (some (.ref q.1)))[3]? = some (some (.ref nd.a)) := by rw [List.getElem?_set_ne (by decide)]; exact f3
      have p4 : (ρ1.set 5 (some (.ref q.1)))[4]? = some (some (vi k)) := by rw [List.getElem?_set_ne (by decide)]; exact f4
      have p5 : (ρ1.set 5 (some (.ref q.1)))[5]? = some (some (.ref q.1)) := by rw [List.getElem?_set_self (by omega)]
      have p6 : 6 ≤ (ρ1.set 5 (some (.ref q.1))).length := by rw [List.length_set]; exact f6
      show JX G c (ρ1.set 5 (some (.ref q.1))) _ _ _ _
      generalize ρ1.set 5 (some (.ref q.1)) = ρ2 at p0 p1 p3 p4 p5 p6 ⊢
      have rq : ∀ {k : Int → Int → Int → Int → Int → Prop}, k q.2.n q.2.p q.2.g q.2.f q.2.m → RtAt τ' (.ref q.1) k := fun hk => ⟨q.1, _, _, _, _, _, rfl, hrts q hqm, hk⟩
      have nohit : hitR (x, r) q = false → JX G c ρ2 τ' (execs [] c.env) (fun ρ1 σ1 => JX G c ρ1 σ1 (execs [] c.env) (fun ρ τ'' => τ'' = τ' ∧ ρ[0]? = some (some (.ref R)) ∧ ρ[1]? = some (some (.ref x)) ∧ ρ[3]? = some (some (.ref nd.a)) ∧ 6 ≤ ρ.length ∧ (∀ i' r', i' < k + 1 → nd.rs[i']? = some r' → hitR (x, r) r' = false)) Q) Q := fun hh => js_nil (js_nil ⟨rfl, p0, p1, p3, p6, fun i' r' hi h => by
        by_cases e : i' = k
        · subst e; rw [hq] at h; cases h; exact hh
        · exact hno i' r' (by omega) h⟩)
      refine js_cons (js_if (jt_bool (jal_and (jt_cmp (je_gateway O (je_loc O l5 p5 (rq (je_gateway O (je_loc O l1 p1 (rt hxτ (jc_eq (asB ?_))))))))))))
      refine ⟨fun hb => ?_, fun hb => ⟨fun h => (by cases h), fun _ => nohit (by unfold hitR; rw [hb]; rfl)⟩⟩
      refine jal_and (jt_cmp (je_face O (je_loc O l5 p5 (rq (je_face O (je_loc O l1 p1 (rt hxτ (jc_eq (asB ?_)))))))))
      refine ⟨fun hc => jal_and0 ⟨fun _ => ?_, fun h => (by cases h)⟩, fun hc => ⟨fun h => (by cases h), fun _ => nohit (by unfold hitR; rw [hc, Bool.and_false])⟩⟩
      refine js_cons (js_setitem ?_)
      refine je_loc O l1 p1 (je_routes O (je_loc O l3 p3 (br hnode (je_loc O l4 p4 ?_))))
      refine ⟨nd.l, _, k, rfl, hlst, rfl, by rw [List.length_map]; omega, by rw [List.length_map]; omega, ?_⟩
      refine js_cons (js_ret0 ?_)
      have eput : putR (x, r) nd.rs = nd.rs.set k (x, r) := putR_hit hq (by unfold hitR; rw [hb, hc]; rfl) hno
      refine done (nd.rs.set k (x, r)) _ m eput.symm (by rw [List.length_set]; omega) ?_ ?_ fun b _ hbl => upd_other hbl
      · rw [upd_other]; exact hRτ
        rintro rfl; rw [hlst] at hRτ; cases hRτ
      · rw [upd_self]
        exact congrArg some (congrArg AO.list (map_set_ref (q := (x, r))))
    · rintro ρ τ' ⟨rfl, e0, e1, e3, e6, hno⟩
      rw [show ((nd.rs.length : Int)).toNat = nd.rs.length by omega] at hno
      have eput : putR (x, r) nd.rs = nd.rs ++ [(x, r)] := putR_none fun q hq => by
        obtain ⟨i, hi, e⟩ := List.getElem_of_mem hq
        exact hno i q hi (by rw [List.getElem?_eq_getElem hi, e])
      refine js_cons (js_expr ?_ (inter O))
      refine je_append ?_
      refine je_routes O (je_loc O l3 e3 (br hnode ⟨nd.l, _, rfl, hlst, ?_⟩))
      refine je_loc O l1 e1 ⟨_, hlst, by rw [List.length_map]; omega, rfl, ?_⟩
      have hlR : nd.l ≠ R := by rintro e; rw [e, hRτ] at hlst; cases hlst
      have hR2 : upd τ' nd.l (.list ((nd.rs.map fun q => Value.ref q.1) ++ [.ref x])) R = some (.routes (.ref root) m) := by rw [upd_other (Ne.symm hlR)]; exact hRτ
      refine js_cons (js_set O (fld_many G) ?_)
      refine je_bin (je_many O (je_loc O l0 e0 ⟨R, _, _, rfl, hR2, .ref, je_int (jb_add (je_loc O l0 e0 ?_))⟩))
      refine ⟨R, _, .routes (.ref root) (m + 1), _, _, _, _, rfl, hR2, rfl, rfl, .on (by decide) .here, by decide, ?_⟩
      refine js_nil (done (nd.rs ++ [(x, r)]) _ (m + 1) eput.symm (by rw [List.length_append, List.length_singleton]; omega) upd_self ?_ fun b hbR hbl => by rw [upd_other hbR, upd_other hbl])
      rw [upd_other hlR, upd_self, List.map_append]; rfl
end Mine
end

section
open PySem PySem.W PyProof.Rows PySem.Spec PySem.Calls
namespace Mine

noncomputable def removeS : SpecT := fun vs σ Q => ∃ (R root : Addr) (m a p : Int) (T : Trie), vs = [.ref R, vi a, vi p] ∧ σ R = some (.routes (.ref root) m) ∧ TrieAt σ T root ∧ 0 ≤ a ∧ a ≤ 4294967295 ∧ 0 ≤ p ∧ p ≤ 32 ∧ netI a p = a ∧ (cts T (pathOf a p.toNat)).length ≤ 900 ∧
  ∀ τ T', Mut σ T R root τ T' (m - (cts T (pathOf a p.toNat)).length) → cts T' = setC (cts T) (pathOf a p.toNat) [] → Q (vi (cts T (pathOf a p.toNat)).length) τ
theorem Fram.of_framB {T : Trie} {R : Addr} {σ τ : AH} (h : FramB σ τ) : Fram T R σ τ := fun b o e hb _ _ => h b o e hb
theorem cts_none {σ : AH} {T : Trie} {root : Addr} (H : TrieAt σ T root) {a : Int} {j : Nat} (h : T (pathOf a j) = none) : ∀ k, j ≤ k → T (pathOf a k) = none := by
  intro k hk
  obtain ⟨i, rfl⟩ : ∃ i, k = j + i := ⟨k - j, by omega⟩
  clear hk
  induction i with
  | zero => exact h
  | succ i ih =>
    cases e : T (pathOf a (j + (i + 1))) with
    | none => rfl
    | some z =>
      have : (T (pathOf a (j + i) ++ [bitB a (j + i)])).isSome = true := by rw [← pathOf_succ, show j + i + 1 = j + (i + 1) by omega, e]; rfl
      have := H.closed _ _ this
      rw [ih] at this; cases this
/-- a list of a node's is put away for a new one -/
theorem TrieAt.put {σ : AH} {T : Trie} {root : Addr} (H : TrieAt σ T root) {p : Path} {nd : Nd} {l' : Addr} {rs' : List (Addr × Row)} (hp : T p = some nd) (hl : σ l' = none) (hr : RtsAt σ rs') :
    TrieAt (upd (upd σ l' (.list (rs'.map fun q => .ref q.1))) nd.a (.branch (chV T p false) (chV T p true) (.ref l'))) (setT T p (some ⟨nd.a, l', rs'⟩)) root := by
  have hla : l' ≠ nd.a := (H.fresh hl hp).1
  refine H.turn hp upd_self (by rw [upd_other hla, upd_self]) (fun q hq => ?_) (fun q nd' h hq => ⟨?_, ?_, ?_⟩) (fun q nd' h hq r hr' => ?_)
  · have := hr q hq
    rw [upd_other, upd_other]; exact this
    · rintro e; rw [e, hl] at this; cases this
    · rintro e; rw [e, H.node _ _ hp] at this; cases this
  · rw [upd_other fun e => hq (H.injA _ _ _ _ h hp e), upd_other (Ne.symm (H.fresh hl h).1)]
  · rw [upd_other (Ne.symm (H.ne_al hp h)), upd_other (Ne.symm (H.fresh hl h).2.1)]
  · exact (H.fresh hl h).2.1
  · have := H.rts _ _ h r hr'
    rw [upd_other, upd_other]
    · rintro e; rw [e, hl] at this; cases this
    · rintro e; rw [e, H.node _ _ hp] at this; cases this
theorem pathV_put {T : Trie} {p : Path} {nd : Nd} {l' : Addr} {rs' : List (Addr × Row)} (hp : T p = some nd) {a : Int} {j : Nat} : pathV (setT T p (some ⟨nd.a, l', rs'⟩)) a j = pathV T a j := by
  unfold pathV
  apply List.map_congr_left
  intro i _
  by_cases h : pathOf a i = p
  · rw [h, adr_of setT_self, adr_of hp]
  · unfold adr; rw [setT_other h]
theorem some_put {T : Trie} {p : Path} {nd nd' : Nd} (hp : T p = some nd) {q : Path} (h : (T q).isSome = true) : (setT T p (some nd') q).isSome = true := by
  by_cases e : q = p
  · subst e; rw [setT_self]; rfl
  · rw [setT_other e]; exact h
theorem v_remove (G : GP) : Valid G (.ref 215) 4 removeS := by
  refine valid_def (n := 3) [S "self", S "net", S "prefix"] [S "self", S "net", S "prefix", S "path", S "many"] [S "net_of", S "len"] 3 (by k_is) (by k_is) ?_ ?_ rfl rfl rfl ?_ ?_ ?_ ?_ rfl rfl ?_
  · rintro vs σ Q ⟨R, root, m, a, p, T, rfl, h0, HT, a0, a1, hp0, hp1, hnet, hz, hQ⟩; rfl
  · intro us hl
    rcases us with _ | ⟨u0, _ | ⟨u1, _ | ⟨u2, _ | ⟨u3, us⟩⟩⟩⟩ <;> first | (exfalso; simp at hl; done) | rfl
  · decide +kernel
  · decide +kernel
  · decide +kernel
  · decide +kernel
  · rintro c O hnm hgl vs σ Q ⟨R, root, m, a, p, T, rfl, h0, HT, a0, a1, hp0, hp1, hnet, hz, hQ⟩
    show JX G c _ _ (execs (_ :: _) c.env) _ _
    have l0 : LocAt c 0 (S "self") := by unfold LocAt; rw [hnm]; rfl
    have l1 : LocAt c 1 (S "net") := by unfold LocAt; rw [hnm]; rfl
    have l2 : LocAt c 2 (S "prefix") := by unfold LocAt; rw [hnm]; rfl
    have l3 : LocAt c 3 (S "path") := by unfold LocAt; rw [hnm]; rfl
    have l4 : LocAt c 4 (S "many") := by unfold LocAt; rw [hnm]; rfl
    have g0 : GlAt c (S "net_of") := by unfold GlAt; rw [hgl]; simp
    have g1 : GlAt c (S "len") := by unfold GlAt; rw [hgl]; simp
    refine js_cons (js_assign O l1 ?_)
    refine je_call O g0 (t_net_of G) (v_net_of G) (by decide) ?_
    refine ja_cons (je_loc O l1 rfl (ja_cons (je_loc O l2 rfl (ja_nil ?_))))
    refine ⟨a, p, rfl, a0, a1, hp0, hp1, ?_⟩
    rw [hnet]
    refine js_cons (js_assign O l3 ?_)
    refine je_meth (C := 244) (ns := nRoutes) O (m_path G) (v_path G) (by decide) ?_
    refine je_loc O l0 rfl ⟨R, _, _, rfl, h0, rfl, rfl, rfl, ?_⟩
    refine ja_cons (je_loc O l1 rfl (ja_cons (je_loc O l2 rfl (ja_cons (je_bool (ja_nil ?_))))))
    refine ⟨R, root, m, a, p.toNat, false, T, by rw [show ((p.toNat : Nat) : Int) = p by omega], by omega, h0, HT, fun τ T1 j d P => ?_⟩
    obtain ⟨rfl, hsub⟩ := P.same rfl
    have hRτ : τ R = some (.routes (.ref root) m) := hsub _ _ h0
    refine js_cons (js_if (jt_cmp ?_))
    refine je_len O g1 (b_len G) ?_
    refine je_loc O l3 rfl ⟨d, _, rfl, P.list, by rw [pathV_len]; have := P.hj; omega, ?_⟩
    rw [pathV_len]
    refine je_loc O l2 rfl (jc_le (asB ?_))
    have hj := P.hj
    refine ⟨fun hb => ?_, fun hb => js_nil ?_⟩
    · have hlt : j < p.toNat := by have : ((j + 1 : Nat) : Int) ≤ p := by simpa using hb
                                   omega
      have hnone : T1 (pathOf a p.toNat) = none := by
        rcases P.stop with h | ⟨_, h⟩
        · omega
        · exact cts_none HT h _ hlt
      have hc : cts T1 (pathOf a p.toNat) = [] := by unfold cts; rw [hnone]
      rw [hc] at hQ
      refine js_cons (js_ret (je_int ?_))
      refine hQ τ T1 ⟨P.trie, by rw [hRτ]; simp, .of_framB P.fram, P.dom, P.lsub⟩ ?_
      funext q
      unfold setC
      by_cases e : q = pathOf a p.toNat
      · rw [if_pos e, e, hc]
      · rw [if_neg e]
    · have hlt : ¬ ((j + 1 : Nat) : Int) ≤ p := by simpa using hb
      obtain rfl : j = p.toNat := by omega
      obtain ⟨nd, hn⟩ := Option.isSome_iff_exists.mp (P.all _ (Nat.le_refl _))
      have hnode := P.trie.node _ _ hn
      have hlst := P.trie.lst _ _ hn
      have hc : cts T1 (pathOf a p.toNat) = nd.rs := by unfold cts; rw [hn]
      rw [hc] at hz hQ
      have hback : (pathV T1 a p.toNat)[((-1 : Int) + (pathV T1 a p.toNat).length).toNat]? = some (.ref nd.a) := by
        rw [pathV_len, show ((-1 : Int) + ((p.toNat + 1 : Nat) : Int)).toNat = p.toNat by omega]
        exact pathV_get (Nat.le_refl _) hn
      refine js_cons (js_assign O l4 ?_)
      refine je_len O g1 (b_len G) ?_
      refine je_routes O (je_sub (je_loc O l3 rfl ?_))
      walk_at "JWS"
      refine ⟨1, rfl, ?_⟩
      show JS2 _ _ _ _ _ _ _ _ _
      refine js2_back P.list (by decide) (by rw [pathV_len]; omega) (by decide) hback ?_
      refine ⟨nd.a, _, _, _, rfl, hnode, chV_plain, chV_plain, .ref, ?_⟩
      refine ⟨nd.l, _, rfl, hlst, by rw [List.length_map]; omega, ?_⟩
      rw [List.length_map]
      refine js_cons (js_set O (fld_routes G) ?_)
      refine je_list (ja_nil ⟨by decide, fun l' hl' => ?_⟩)
      have hdl : d ≠ l' := by rintro rfl; rw [P.list] at hl'; cases hl'
      have hal : nd.a ≠ l' := Ne.symm (P.trie.fresh hl' hn).1
      have hda : d ≠ nd.a := by intro e; have := P.list; rw [e, hnode] at this; cases this
      have hRl : R ≠ l' := by rintro rfl; rw [hRτ] at hl'; cases hl'
      have hRa : R ≠ nd.a := by intro e; rw [e, hnode] at hRτ; cases hRτ
      refine je_sub (je_loc O l3 rfl ?_)
      walk_at "JWS"
      refine ⟨1, rfl, ?_⟩
      show JS2 _ _ _ _ _ _ _ _ _
      refine js2_back (by rw [upd_other hdl]; exact P.list) (by decide) (by rw [pathV_len]; omega) (by decide) hback ?_
      refine ⟨nd.a, _, .branch _ _ (.ref l'), _, _, _, _, rfl, (by rw [upd_other hal]; exact hnode), rfl, rfl, .on (by decide) (.on (by decide) .here), by decide, ?_⟩
      have HP := P.trie.put (rs' := []) hn hl' (fun q hq => nomatch hq)
      refine js_cons (js_set O (fld_many G) ?_)
      refine je_bin (je_many O (je_loc O l0 rfl ⟨R, _, _, rfl, (by rw [upd_other hRa, upd_other hRl]; exact hRτ), .ref, je_loc O l4 rfl (jb_sub (je_loc O l0 rfl ?_))⟩))
      refine ⟨R, _, .routes (.ref root) (m - nd.rs.length), _, _, _, _, rfl, (by rw [upd_other hRa, upd_other hRl]; exact hRτ), rfl, rfl, .on (by decide) .here, by decide, ?_⟩
      have hdR : d ≠ R := by rintro rfl; rw [P.list] at hRτ; cases hRτ
      have HP2 : TrieAt (upd (upd (upd τ l' (.list [])) nd.a (.branch (chV T1 (pathOf a p.toNat) false) (chV T1 (pathOf a p.toNat) true) (.ref l'))) R (.routes (.ref root) (m - nd.rs.length))) (setT T1 (pathOf a p.toNat) (some ⟨nd.a, l', []⟩)) root := HP.other fun q nd' h => by
        have e0 : upd (upd τ l' (.list [])) nd.a (.branch (chV T1 (pathOf a p.toNat) false) (chV T1 (pathOf a p.toNat) true) (.ref l')) R = some (.routes (.ref root) m) := by rw [upd_other hRa, upd_other hRl]; exact hRτ
        refine ⟨fun e => ?_, fun e => ?_, fun r hr e => ?_⟩
        · have := HP.node _ _ h; rw [← e] at this; exact absurd (e0.symm.trans this) (by simp)
        · have := HP.lst _ _ h; rw [← e] at this; exact absurd (e0.symm.trans this) (by simp)
        · have := HP.rts _ _ h r hr; rw [← e] at this; exact absurd (e0.symm.trans this) (by simp [Row.ao])
      refine js_cons (js_expr ?_ (inter O))
      refine je_meth (C := 244) (ns := nRoutes) O (m_prune G) (v_prune G) (by decide) ?_
      refine je_loc O l0 rfl ⟨R, _, _, rfl, upd_self, rfl, rfl, rfl, ?_⟩
      refine ja_cons (je_loc O l1 rfl (ja_cons (je_loc O l3 rfl (ja_nil ?_))))
      refine ⟨R, root, d, a, p.toNat, _, rfl, by omega, HP2, fun i hi => some_put hn (P.all i hi), ?_, fun τ2 T2 hless hfr hdm HT2 => ⟨rfl, ?_⟩⟩
      · rw [pathV_put hn, upd_other hdR, upd_other hda, upd_other hdl]; exact P.list
      refine js_cons (js_ret (je_loc O l4 rfl ?_))
      refine hQ τ2 T2 ⟨HT2, hfr _ _ upd_self rfl, fun b o e hbr hbR hbl => ?_, fun b e => ?_, fun q nd' h => ?_⟩ ?_
      · refine hfr _ _ ?_ hbr
        have eb := P.fram b o e hbr
        rw [upd_other hbR, upd_other, upd_other]; exact eb
        · rintro rfl; rw [hl'] at eb; cases eb
        · rintro rfl; rw [hnode] at eb; cases eb; cases hbr
      · exact P.dom b (Dom.upd b (Dom.upd b (Dom.upd b (hdm b e))))
      · have h' := hless.1 _ _ h
        by_cases e : q = pathOf a p.toNat
        · rw [e, setT_self] at h'; cases h'
          exact .inr (P.dom l' hl')
        · rw [setT_other e] at h'; exact .inl ⟨q, nd', h', rfl⟩
      · funext q
        rw [hless.2 q, cts_set]

noncomputable def findC (C : Path → List (Addr × Row)) (a : Int) : Nat → Option (Addr × Row)
  | 0 => bestOf (C [])
  | k + 1 => if C (pathOf a (k + 1)) = [] then findC C a k else bestOf (C (pathOf a (k + 1)))
theorem findC_succ {C : Path → List (Addr × Row)} {a : Int} {k : Nat} : findC C a (k + 1) = if C (pathOf a (k + 1)) = [] then findC C a k else bestOf (C (pathOf a (k + 1))) := rfl
theorem findC_none {C : Path → List (Addr × Row)} {a : Int} {j : Nat} (h : ∀ k, j < k → C (pathOf a k) = []) : ∀ k, j ≤ k → findC C a k = findC C a j := by
  intro k hk
  obtain ⟨i, rfl⟩ : ∃ i, k = j + i := ⟨k - j, by omega⟩
  clear hk
  induction i with
  | zero => rfl
  | succ i ih => rw [show j + (i + 1) = (j + i) + 1 by omega]; rw [findC_succ, if_pos (h _ (by omega)), ih]
noncomputable def findS : SpecT := fun vs σ Q => ∃ (R root : Addr) (m a : Int) (T : Trie), vs = [.ref R, vi a] ∧ σ R = some (.routes (.ref root) m) ∧ TrieAt σ T root ∧ (∀ p, (cts T p).length ≤ 900) ∧ Q (optV (findC (cts T) a 32)) σ
noncomputable def ndV (T : Trie) (p : Path) : Value := match T p with
  | some nd => .ref nd.a
  | none => .none
theorem ndV_none {T : Trie} {p : Path} : (ndV T p == .none) = (T p).isNone := by
  unfold ndV; cases T p <;> simp
theorem cts_some {T : Trie} {p : Path} {nd : Nd} (h : T p = some nd) : cts T p = nd.rs := by unfold cts; rw [h]
theorem v_find (G : GP) : Valid G (.ref 234) 3 findS := by
  refine valid_def (n := 2) [S "self", S "address"] [S "self", S "address", S "branch", S "found", S "place"] [S "BITS", S "bit_at"] 2 (by k_is) (by k_is) ?_ ?_ rfl rfl rfl ?_ ?_ ?_ ?_ rfl rfl ?_
  · rintro vs σ Q ⟨R, root, m, a, T, rfl, h0, HT, hz, hQ⟩; rfl
  · intro us hl
    rcases us with _ | ⟨u0, _ | ⟨u1, _ | ⟨u2, us⟩⟩⟩ <;> first | (exfalso; simp at hl; done) | rfl
  · decide +kernel
  · decide +kernel
  · decide +kernel
  · decide +kernel
  · rintro c O hnm hgl vs σ Q ⟨R, root, m, a, T, rfl, h0, HT, hz, hQ⟩
    show JX G c _ _ (execs (_ :: _) c.env) _ _
    have l0 : LocAt c 0 (S "self") := by unfold LocAt; rw [hnm]; rfl
    have l1 : LocAt c 1 (S "address") := by unfold LocAt; rw [hnm]; rfl
    have l2 : LocAt c 2 (S "branch") := by unfold LocAt; rw [hnm]; rfl
    have l3 : LocAt c 3 (S "found") := by unfold LocAt; rw [hnm]; rfl
    have l4 : LocAt c 4 (S "place") := by unfold LocAt; rw [hnm]; rfl
    have g0 : GlAt c (S "BITS") := by unfold GlAt; rw [hgl]; simp
    have g1 : GlAt c (S "bit_at") := by unfold GlAt; rw [hgl]; simp
    obtain ⟨nd0, ht0, ha0⟩ := HT.top
    refine js_cons (js_assign O l2 ?_)
    refine je_root O (je_loc O l0 rfl ⟨R, _, _, rfl, h0, .ref, ?_⟩)
    refine js_cons (js_assign O l3 ?_)
    refine je_meth0 (C := 162) (ns := nBranch) O (m_best G) (v_best G) (by decide) ?_
    have n0 := HT.node _ _ ht0
    rw [ha0] at n0
    refine je_loc O l2 rfl ⟨root, _, _, rfl, n0, rfl, rfl, rfl, ?_⟩
    refine ⟨root, nd0.l, _, _, nd0.rs, rfl, n0, chV_plain, chV_plain, HT.lst _ _ ht0, by have := hz []; rw [cts_some ht0] at this; omega, HT.rts _ _ ht0, ?_⟩
    refine js_cons (js_assign O l4 (je_int ?_))
    refine js_cons ?_
    refine js_while (I := fun k ρ τ => τ = σ ∧ ∃ j, k + j = 32 ∧ ρ[1]? = some (some (vi a)) ∧ ρ[2]? = some (some (ndV T (pathOf a j))) ∧ ρ[3]? = some (some (optV (findC (cts T) a j))) ∧ ρ[4]? = some (some (vi j)) ∧ 5 ≤ ρ.length) (k := 32) ⟨rfl, 0, rfl, rfl, ?_, ?_, rfl, by simp⟩ ?_
    · show some (some (Value.ref root)) = _
      rw [pathOf_zero]; unfold ndV; rw [ht0]; show _ = some (some (Value.ref nd0.a)); rw [ha0]
    · show some (some (optV (bestOf nd0.rs))) = some (some (optV (bestOf (cts T []))))
      rw [cts_some ht0]
    · rintro k ρ τ ⟨rfl, j, hkj, e1, e2, e3, e4, e5⟩
      have fin : findC (cts T) a j = findC (cts T) a 32 → JX G c ρ τ (execs [Stmt.Return (some (Expr.Name (S "found") ⟨144, 15, 144, 20⟩)) ⟨144, 8, 144, 20⟩] c.env) (fun _ σ' => Q .none σ') Q := fun h => js_cons (js_ret (je_loc O l3 e3 (by rw [h]; exact hQ)))
      refine jt_bool (jal_and (jt_cmp (je_loc O l2 e2 (je_none (jc_isnot_none (asB ?_))))))
      rw [ndV_none]
      refine ⟨fun hb => ?_, fun hb => ⟨fun h => (by cases h), fun _ => ?_⟩⟩
      rotate_left
      · have hn : T (pathOf a j) = none := by cases h : T (pathOf a j) with | none => rfl | some z => rw [h] at hb; cases hb
        refine js_cons (js_ret (je_loc O l3 e3 ?_))
        rw [← findC_none (fun k hk => by unfold cts; rw [cts_none HT hn k (by omega)]) 32 (by omega)]
        exact hQ
      · obtain ⟨nd, hn⟩ : ∃ nd, T (pathOf a j) = some nd := by cases h : T (pathOf a j) with | none => rw [h] at hb; cases hb | some z => exact ⟨z, rfl⟩
        refine jal_and (jt_cmp (je_loc O l4 e4 (je_gint O g0 (by k_is) (jc_lt (asB ?_)))))
        refine ⟨fun hc => jal_and0 ⟨fun _ => ?_, fun h => (by cases h)⟩, fun hc => ⟨fun h => (by cases h), fun _ => ?_⟩⟩
        rotate_left
        · have : ¬ (j : Int) < 32 := by simpa using hc
          obtain rfl : j = 32 := by omega
          exact js_cons (js_ret (je_loc O l3 e3 hQ))
        · have hj : j < 32 := by have : (j : Int) < 32 := by simpa using hc
                                 omega
          have hv : ndV T (pathOf a j) = .ref nd.a := by unfold ndV; rw [hn]
          rw [hv] at e2
          have hnode := HT.node _ _ hn
          refine js_cons (js_assign O l2 ?_)
          refine je_meth (C := 162) (ns := nBranch) O (m_child G) (v_child G) (by decide) ?_
          refine je_loc O l2 e2 ⟨nd.a, _, _, rfl, hnode, rfl, rfl, rfl, ?_⟩
          refine ja_cons ?_
          refine je_call O g1 (t_bit_at G) (v_bit_at G) (by decide) ?_
          refine ja_cons (je_loc O l1 e1 (ja_cons (je_loc O l4 e4 (ja_nil ?_))))
          refine ⟨a, j, rfl, by omega, by omega, ja_nil ?_⟩
          refine ⟨nd.a, bitI a j, _, _, _, rfl, hnode, chV_plain, chV_plain, .ref, ?_⟩
          rw [bit_ch]
          have hch : chV T (pathOf a j) (bitB a j) = ndV T (pathOf a (j + 1)) := by rw [pathOf_succ]; rfl
          rw [hch]
          have f1 : (ρ.set 2 (some (ndV T (pathOf a (j + 1)))))[1]? = some (some (vi a)) := by rw [List.getElem?_set_ne (by decide)]; exact e1
          have f2 : (ρ.set 2 (some (ndV T (pathOf a (j + 1)))))[2]? = some (some (ndV T (pathOf a (j + 1)))) := by rw [List.getElem?_set_self (by omega)]
          have f3 : (ρ.set 2 (some (ndV T (pathOf a (j + 1)))))[3]? = some (some (optV (findC (cts T) a j))) := by rw [List.getElem?_set_ne (by decide)]; exact e3
          have f4 : (ρ.set 2 (some (ndV T (pathOf a (j + 1)))))[4]? = some (some (vi j)) := by rw [List.getElem?_set_ne (by decide)]; exact e4
          have f5 : 5 ≤ (ρ.set 2 (some (ndV T (pathOf a (j + 1))))).length := by rw [List.length_set]; exact e5
          show JX G c (ρ.set 2 (some (ndV T (pathOf a (j + 1))))) _ _ _ _
          generalize ρ.set 2 (some (ndV T (pathOf a (j + 1)))) = ρ1 at f1 f2 f3 f4 f5 ⊢
          refine js_cons (js_assign O l4 (je_bin (je_loc O l4 f4 (je_int (jb_add ?_)))))
          rw [show ((j : Int) + 1) = ((j + 1 : Nat) : Int) by omega]
          have p1 : (ρ1.set 4 (some (vi (j + 1 : Nat))))[1]? = some (some (vi a)) := by rw [List.getElem?_set_ne (by decide)]; exact f1
          have p2 : (ρ1.set 4 (some (vi (j + 1 : Nat))))[2]? = some (some (ndV T (pathOf a (j + 1)))) := by rw [List.getElem?_set_ne (by decide)]; exact f2
          have p3 : (ρ1.set 4 (some (vi (j + 1 : Nat))))[3]? = some (some (optV (findC (cts T) a j))) := by rw [List.getElem?_set_ne (by decide)]; exact f3
          have p4 : (ρ1.set 4 (some (vi (j + 1 : Nat))))[4]? = some (some (vi (j + 1 : Nat))) := by rw [List.getElem?_set_self (by omega)]
          have p5 : 5 ≤ (ρ1.set 4 (some (vi (j + 1 : Nat)))).length := by rw [List.length_set]; exact f5
          show JX G c (ρ1.set 4 (some (vi (j + 1 : Nat)))) _ _ _ _
          generalize ρ1.set 4 (some (vi (j + 1 : Nat))) = ρ2 at p1 p2 p3 p4 p5 ⊢
          have stay : cts T (pathOf a (j + 1)) = [] → JX G c ρ2 τ (execs [] c.env) (fun ρ1 σ1 => JX G c ρ1 σ1 (execs [] c.env) (fun ρ2 σ2 => ∃ k', k' < k ∧ σ2 = τ ∧ ∃ j, k' + j = 32 ∧ ρ2[1]? = some (some (vi a)) ∧ ρ2[2]? = some (some (ndV T (pathOf a j))) ∧ ρ2[3]? = some (some (optV (findC (cts T) a j))) ∧ ρ2[4]? = some (some (vi j)) ∧ 5 ≤ ρ2.length) Q) Q := fun he => js_nil (js_nil ⟨k - 1, by omega, rfl, j + 1, by omega, p1, p2, by rw [p3]; rw [findC_succ, if_pos he], p4, p5⟩)
          refine js_cons (js_if (jt_bool (jal_and (jt_cmp (je_loc O l2 p2 (je_none (jc_isnot_none (asB ?_))))))))
          rw [ndV_none]
          refine ⟨fun hd => ?_, fun hd => ⟨fun h => (by cases h), fun _ => stay ?_⟩⟩
          rotate_left
          · have hn' : T (pathOf a (j + 1)) = none := by cases h : T (pathOf a (j + 1)) with | none => rfl | some z => rw [h] at hd; cases hd
            unfold cts; rw [hn']
          · obtain ⟨nd1, hn1⟩ : ∃ nd, T (pathOf a (j + 1)) = some nd := by cases h : T (pathOf a (j + 1)) with | none => rw [h] at hd; cases hd | some z => exact ⟨z, rfl⟩
            have hv1 : ndV T (pathOf a (j + 1)) = .ref nd1.a := by unfold ndV; rw [hn1]
            have p2' := p2
            rw [hv1] at p2'
            have hnode1 := HT.node _ _ hn1
            have hlst1 := HT.lst _ _ hn1
            refine jal_and (J.shrink (jt_cmp (je_routes O (je_loc O l2 p2' ⟨nd1.a, _, _, _, rfl, hnode1, chV_plain, chV_plain, .ref, ?_⟩))))
            refine je_list (ja_nil ⟨by decide, fun d hd' => ?_⟩)
            refine jc_ne_nil O (Sub.upd hd' _ _ hlst1) upd_self ?_
            refine ⟨_, rfl, τ, Sub.upd hd', fun hg => jal_and0 ⟨fun _ => ?_, fun h => (by cases h)⟩, fun hg => ⟨fun h => (by cases h), fun _ => stay ?_⟩⟩
            rotate_left
            · rw [cts_some hn1]
              cases h : nd1.rs with
              | nil => rfl
              | cons x y => rw [h] at hg; cases hg
            · have hne : cts T (pathOf a (j + 1)) ≠ [] := by
                rw [cts_some hn1]
                intro h; rw [h] at hg; cases hg
              refine js_cons (js_assign O l3 ?_)
              refine je_meth0 (C := 162) (ns := nBranch) O (m_best G) (v_best G) (by decide) ?_
              refine je_loc O l2 p2' ⟨nd1.a, _, _, rfl, hnode1, rfl, rfl, rfl, ?_⟩
              refine ⟨nd1.a, nd1.l, _, _, nd1.rs, rfl, hnode1, chV_plain, chV_plain, hlst1, by have := hz (pathOf a (j + 1)); rw [cts_some hn1] at this; omega, HT.rts _ _ hn1, ?_⟩
              refine js_nil (js_nil ⟨k - 1, by omega, rfl, j + 1, by omega, ?_, ?_, ?_, ?_, ?_⟩)
              · rw [List.getElem?_set_ne (by decide)]; exact p1
              · rw [List.getElem?_set_ne (by decide)]; exact p2
              · rw [List.getElem?_set_self (by omega)]
                rw [findC_succ, if_neg hne, cts_some hn1]
              · rw [List.getElem?_set_ne (by decide)]; exact p4
              · rw [List.length_set]; exact p5
end Mine
end

section
open PySem PySem.W PyProof.Rows PySem.Spec PySem.Calls
namespace Mine

noncomputable def pre (T : Trie) : Nat → Path → List (Addr × Row)
  | 0, p => cts T p
  | n + 1, p => cts T p ++ (pre T n (p ++ [false]) ++ pre T n (p ++ [true]))
noncomputable def cnt (T : Trie) : Nat → Path → Nat
  | 0, p => if (T p).isSome = true then 1 else 0
  | n + 1, p => (if (T p).isSome = true then 1 else 0) + (cnt T n (p ++ [false]) + cnt T n (p ++ [true]))
noncomputable def W (T : Trie) (p : Path) : List (Addr × Row) := pre T (32 - p.length) p
noncomputable def Cn (T : Trie) (p : Path) : Nat := cnt T (32 - p.length) p
theorem child_none {σ : AH} {T : Trie} {root : Addr} (H : TrieAt σ T root) {p : Path} (h : T p = none) (b : Bool) : T (p ++ [b]) = none := by
  cases e : T (p ++ [b]) with
  | none => rfl
  | some z => have := H.closed p b (by rw [e]; rfl); rw [h] at this; cases this
theorem pre_none {σ : AH} {T : Trie} {root : Addr} (H : TrieAt σ T root) : ∀ (n : Nat) {p : Path}, T p = none → pre T n p = []
  | 0, p, h => by unfold pre cts; rw [h]
  | n + 1, p, h => by
    unfold pre
    rw [pre_none H n (child_none H h false), pre_none H n (child_none H h true)]
    unfold cts; rw [h]; rfl
theorem cnt_none {σ : AH} {T : Trie} {root : Addr} (H : TrieAt σ T root) : ∀ (n : Nat) {p : Path}, T p = none → cnt T n p = 0
  | 0, p, h => by unfold cnt; rw [h]; rfl
  | n + 1, p, h => by
    unfold cnt
    rw [cnt_none H n (child_none H h false), cnt_none H n (child_none H h true), h]; rfl
theorem W_none {σ : AH} {T : Trie} {root : Addr} (H : TrieAt σ T root) {p : Path} (h : T p = none) : W T p = [] := pre_none H _ h
theorem Cn_none {σ : AH} {T : Trie} {root : Addr} (H : TrieAt σ T root) {p : Path} (h : T p = none) : Cn T p = 0 := cnt_none H _ h
theorem deep_none {σ : AH} {T : Trie} {root : Addr} (H : TrieAt σ T root) {p : Path} (h : 32 < p.length) : T p = none := by
  cases e : T p with
  | none => rfl
  | some z => have := H.deep _ _ e; omega
theorem W_some {σ : AH} {T : Trie} {root : Addr} (H : TrieAt σ T root) {p : Path} {nd : Nd} (h : T p = some nd) : W T p = nd.rs ++ (W T (p ++ [false]) ++ W T (p ++ [true])) := by
  have hd := H.deep _ _ h
  by_cases h32 : p.length = 32
  · rw [W_none H (p := p ++ [false]) (deep_none H (by rw [List.length_append, List.length_singleton]; omega)), W_none H (p := p ++ [true]) (deep_none H (by rw [List.length_append, List.length_singleton]; omega))]
    unfold W
    rw [h32]
    show cts T p = _
    rw [cts_some h]; simp
  · unfold W
    rw [List.length_append, List.length_append, List.length_singleton, List.length_singleton]
    obtain ⟨n, hn⟩ : ∃ n, 32 - p.length = n + 1 := ⟨32 - p.length - 1, by omega⟩
    rw [hn, show 32 - (p.length + 1) = n by omega]
    show cts T p ++ _ = _
    rw [cts_some h]
theorem Cn_some {σ : AH} {T : Trie} {root : Addr} (H : TrieAt σ T root) {p : Path} {nd : Nd} (h : T p = some nd) : Cn T p = 1 + (Cn T (p ++ [false]) + Cn T (p ++ [true])) := by
  have hd := H.deep _ _ h
  by_cases h32 : p.length = 32
  · rw [Cn_none H (p := p ++ [false]) (deep_none H (by rw [List.length_append, List.length_singleton]; omega)), Cn_none H (p := p ++ [true]) (deep_none H (by rw [List.length_append, List.length_singleton]; omega))]
    unfold Cn
    rw [h32]
    show (if (T p).isSome = true then 1 else 0) = _
    rw [h]; rfl
  · unfold Cn
    rw [List.length_append, List.length_append, List.length_singleton, List.length_singleton]
    obtain ⟨n, hn⟩ : ∃ n, 32 - p.length = n + 1 := ⟨32 - p.length - 1, by omega⟩
    rw [hn, show 32 - (p.length + 1) = n by omega]
    show (if (T p).isSome = true then 1 else 0) + _ = _
    rw [h]; rfl
noncomputable def opt (T : Trie) (p : Path) : List Path := if (T p).isSome = true then [p] else []
noncomputable def flat (T : Trie) (s : List Path) : List (Addr × Row) := s.reverse.flatMap (W T)
theorem flat_opt {σ : AH} {T : Trie} {root : Addr} (H : TrieAt σ T root) {s : List Path} {p : Path} : flat T (s ++ opt T p) = W T p ++ flat T s := by
  unfold opt flat
  split
  · simp
  · rename_i h
    rw [W_none H (by cases e : T p with | none => rfl | some z => rw [e] at h; exact absurd rfl h)]
    simp
noncomputable def meas (T : Trie) (s : List Path) : Nat := (s.map (Cn T)).sum
theorem meas_opt {σ : AH} {T : Trie} {root : Addr} (H : TrieAt σ T root) {s : List Path} {p : Path} : meas T (s ++ opt T p) = meas T s + Cn T p := by
  unfold opt meas
  split
  · simp
  · rename_i h
    rw [Cn_none H (by cases e : T p with | none => rfl | some z => rw [e] at h; exact absurd rfl h)]
    simp
structure RInv (σ : AH) (T : Trie) (fd ld : Addr) (s : List Path) (f : List (Addr × Row)) (ρ : LE) (τ : AH) : Prop where
  e1 : ρ[1]? = some (some (.ref fd))
  e2 : ρ[2]? = some (some (.ref ld))
  e4 : 4 ≤ ρ.length
  sub : Sub σ τ
  new : σ ld = none
  ne : fd ≠ ld
  fnew : σ fd = none
  fl : τ fd = some (.list (f.map fun q => .ref q.1))
  ll : τ ld = some (.list (s.map fun p => .ref (adr T p)))
  all : ∀ p ∈ s, (T p).isSome = true
  pos : ∀ (i : Nat) (p : Path), s[i]? = some p → i ≤ p.length
theorem RInv.len {σ : AH} {root : Addr} {T : Trie} {fd ld : Addr} {s : List Path} {f : List (Addr × Row)} {ρ : LE} {τ : AH} (I : RInv σ T fd ld s f ρ τ) (H : TrieAt σ T root) : s.length ≤ 33 := by
  cases h : s.length with
  | zero => omega
  | succ n =>
    have hp : s[n]? = some s[n] := List.getElem?_eq_getElem (by omega)
    have h1 := I.pos _ _ hp
    obtain ⟨nd, hn⟩ := Option.isSome_iff_exists.mp (I.all _ (List.mem_of_getElem? hp))
    have := H.deep _ _ hn
    omega
noncomputable def rowsS : SpecT := fun vs σ Q => ∃ (R root : Addr) (m : Int) (T : Trie), vs = [.ref R] ∧ σ R = some (.routes (.ref root) m) ∧ TrieAt σ T root ∧ (W T []).length ≤ 900 ∧ ∀ τ d, σ d = none → Sub σ τ → τ d = some (.list ((W T []).map fun q => .ref q.1)) → Q (.ref d) τ
theorem snoc_of {α : Type} {l : List α} (h : l ≠ []) : ∃ s p, l = s ++ [p] := ⟨_, _, (List.dropLast_concat_getLast h).symm⟩
theorem v_rows (G : GP) : Valid G (.ref 241) 1 rowsS := by
  refine valid_def (n := 0) [S "self"] [S "self", S "found", S "left", S "branch"] [] 1 (by k_is) (by k_is) ?_ ?_ rfl rfl rfl ?_ ?_ ?_ ?_ rfl rfl ?_
  · rintro vs σ Q ⟨R, root, m, T, rfl, h0, HT, hz, hQ⟩; rfl
  · intro us hl
    rcases us with _ | ⟨u0, _ | ⟨u1, us⟩⟩ <;> first | (exfalso; simp at hl; done) | rfl
  · decide +kernel
  · decide +kernel
  · decide +kernel
  · decide +kernel
  · rintro c O hnm hgl vs σ Q ⟨R, root, m, T, rfl, h0, HT, hz, hQ⟩
    show JX G c _ _ (execs (_ :: _) c.env) _ _
    have l0 : LocAt c 0 (S "self") := by unfold LocAt; rw [hnm]; rfl
    have l1 : LocAt c 1 (S "found") := by unfold LocAt; rw [hnm]; rfl
    have l2 : LocAt c 2 (S "left") := by unfold LocAt; rw [hnm]; rfl
    have l3 : LocAt c 3 (S "branch") := by unfold LocAt; rw [hnm]; rfl
    obtain ⟨nd0, ht0, ha0⟩ := HT.top
    refine js_cons (js_assign O l1 (je_list (ja_nil ⟨by decide, fun fd hfd => ?_⟩)))
    have hRf : R ≠ fd := by rintro rfl; rw [h0] at hfd; cases hfd
    refine js_cons (js_assign O l2 (je_list (ja_cons (je_root O (je_loc O l0 rfl ⟨R, _, _, rfl, (by rw [upd_other hRf]; exact h0), .ref, ja_nil ⟨by simp, fun ld hld => ?_⟩⟩)))))
    have hlf : ld ≠ fd := by rintro rfl; rw [upd_self] at hld; cases hld
    have hld' : σ ld = none := by rw [upd_other hlf] at hld; exact hld
    refine js_cons ?_
    refine js_while (I := fun k ρ τ => ∃ fd ld s f, RInv σ T fd ld s f ρ τ ∧ f ++ flat T s = W T [] ∧ k = meas T s) (k := meas T [[]]) ⟨fd, ld, [[]], [], ⟨rfl, rfl, by simp, fun b o e => ?_, hld', Ne.symm hlf, hfd, ?_, ?_, ?_, ?_⟩, ?_, rfl⟩ ?_
    · exact Sub.upd hld _ _ (Sub.upd hfd _ _ e)
    · rw [upd_other (Ne.symm hlf), upd_self]; rfl
    · rw [upd_self]; show some (AO.list [Value.ref root]) = some (AO.list [Value.ref (adr T [])]); rw [adr_of ht0, ha0]
    · intro p hp; rw [List.mem_singleton.mp hp, ht0]; rfl
    · intro i p hp
      cases i with
      | zero => exact Nat.zero_le _
      | succ i => simp at hp
    · unfold flat; simp
    · rintro k ρ τ ⟨fd, ld, st, f, I, hf, rfl⟩
      refine J.shrink (jt_cmp (je_loc O l2 I.e2 (je_list (ja_nil ⟨by decide, fun g hg => ?_⟩))))
      refine jc_ne_nil O (Sub.upd hg _ _ I.ll) upd_self ?_
      refine ⟨_, rfl, τ, Sub.upd hg, fun hb => ?_, fun hb => ?_⟩
      rotate_left
      · have hs : st = [] := by cases st with | nil => rfl | cons x y => cases hb
        subst hs
        have hf' : f = W T [] := by rw [← hf]; unfold flat; simp
        subst hf'
        exact js_cons (js_ret (je_loc O l1 I.e1 (hQ τ fd I.fnew I.sub I.fl)))
      obtain ⟨s, p, rfl⟩ := snoc_of (l := st) (by rintro rfl; cases hb)
      obtain ⟨nd, hn⟩ := Option.isSome_iff_exists.mp (I.all p (by simp))
      have hps : s.length ≤ p.length := I.pos s.length p (by simp)
      refine js_cons (js_assign O l3 (je_pop ?_))
      have hll : τ ld = some (.list ((s.map fun p => .ref (adr T p)) ++ [.ref nd.a])) := by rw [I.ll, List.map_append, ← adr_of hn]; rfl
      refine je_loc O l2 I.e2 ⟨ld, _, _, rfl, hll, by rw [List.length_map]; have := I.len HT; rw [List.length_append] at this; omega, ?_⟩
      have hsub2 : Sub σ (upd τ ld (.list (s.map fun p => .ref (adr T p)))) := fun b o e => by
        rw [upd_other]; exact I.sub _ _ e
        rintro rfl; rw [I.new] at e; cases e
      have f1 : (ρ.set 3 (some (.ref nd.a)))[1]? = some (some (.ref fd)) := by rw [List.getElem?_set_ne (by decide)]; exact I.e1
      have f2 : (ρ.set 3 (some (.ref nd.a)))[2]? = some (some (.ref ld)) := by rw [List.getElem?_set_ne (by decide)]; exact I.e2
      have f3 : (ρ.set 3 (some (.ref nd.a)))[3]? = some (some (.ref nd.a)) := by rw [List.getElem?_set_self (by have := I.e4; omega)]
      have f4 : 4 ≤ (ρ.set 3 (some (.ref nd.a))).length := by rw [List.length_set]; exact I.e4
      show JX G c (ρ.set 3 (some (.ref nd.a))) _ _ _ _
      generalize ρ.set 3 (some (.ref nd.a)) = ρ1 at f1 f2 f3 f4 ⊢
      have hWp := W_some HT hn
      have hfl : flat T (s ++ [p]) = W T p ++ flat T s := by unfold flat; simp
      rw [hfl, hWp] at hf
      have hlen : f.length + nd.rs.length ≤ 900 := by
        have := congrArg List.length hf
        simp only [List.length_append] at this
        omega
      refine js_cons (js_assign O l1 ?_)
      refine je_bin (je_loc O l1 f1 (je_routes O (je_loc O l3 f3 ⟨nd.a, _, _, _, rfl, hsub2 _ _ (HT.node _ _ hn), chV_plain, chV_plain, .ref, ?_⟩)))
      refine jb_addl (by rw [upd_other I.ne]; exact I.fl) (hsub2 _ _ (HT.lst _ _ hn)) (by rw [List.length_map, List.length_map]; omega) fun fd' hfd' => ?_
      have hfl' : fd' ≠ ld := by rintro rfl; rw [upd_self] at hfd'; cases hfd'
      rw [← List.map_append]
      generalize hf'e : f ++ nd.rs = f'
      have J0 : RInv σ T fd' ld s f' (ρ1.set 1 (some (.ref fd'))) (upd (upd τ ld (.list (s.map fun p => .ref (adr T p)))) fd' (.list (f'.map fun q => .ref q.1))) := by
        refine ⟨?_, ?_, ?_, fun b o e => Sub.upd hfd' _ _ (hsub2 _ _ e), I.new, hfl', ?_, upd_self, ?_, fun q hq => I.all q (List.mem_append_left _ hq), fun i q hq => I.pos i q ?_⟩
        · rw [List.getElem?_set_self (by omega)]
        · rw [List.getElem?_set_ne (by decide)]; exact f2
        · rw [List.length_set]; exact f4
        · cases e : σ fd' with
          | none => rfl
          | some o => rw [hsub2 _ _ e] at hfd'; cases hfd'
        · rw [upd_other (Ne.symm hfl'), upd_self]
        · rw [List.getElem?_append_left (List.getElem?_eq_some_iff.mp hq).1]; exact hq
      have g3 : (ρ1.set 1 (some (.ref fd')))[3]? = some (some (.ref nd.a)) := by rw [List.getElem?_set_ne (by decide)]; exact f3
      show JX G c (ρ1.set 1 (some (.ref fd'))) _ _ _ _
      generalize (ρ1.set 1 (some (.ref fd'))) = ρ2 at J0 g3 ⊢
      generalize upd (upd τ ld (.list (s.map fun p => .ref (adr T p)))) fd' (.list (f'.map fun q => .ref q.1)) = τ2 at J0 ⊢
      refine js_seq (fun ρ' τ' => RInv σ T fd' ld (s ++ opt T (p ++ [true])) f' ρ' τ' ∧ ρ'[3]? = some (some (.ref nd.a))) ?_ ?_
      · refine js_if (jt_cmp (je_one O (je_loc O l3 g3 ⟨nd.a, _, _, _, rfl, (J0.sub _ _ (HT.node _ _ hn)), chV_plain, chV_plain, .ref, je_none (jc_isnot_none (asB ?_))⟩)))
        rw [chV_none]
        refine ⟨fun hd => ?_, fun hd => js_nil ?_⟩
        · obtain ⟨nc, hc⟩ : ∃ nc, T (p ++ [true]) = some nc := by cases h : T (p ++ [true]) with | none => rw [h] at hd; cases hd | some z => exact ⟨z, rfl⟩
          have ho : opt T (p ++ [true]) = [p ++ [true]] := by unfold opt; rw [hc]; rfl
          have hv : chV T p true = .ref nc.a := by unfold chV; rw [hc]
          refine js_cons (js_expr ?_ (inter O))
          refine je_append ?_
          refine je_loc O l2 J0.e2 ⟨ld, _, rfl, J0.ll, ?_⟩
          refine je_one O (je_loc O l3 g3 ⟨nd.a, _, _, _, rfl, (J0.sub _ _ (HT.node _ _ hn)), chV_plain, chV_plain, .ref, ?_⟩)
          rw [hv]
          refine ⟨_, J0.ll, by rw [List.length_map]; have := J0.len HT; omega, rfl, ?_⟩
          refine js_nil ⟨?_, g3⟩
          rw [ho]
          refine ⟨J0.e1, J0.e2, J0.e4, fun b o e => ?_, J0.new, J0.ne, J0.fnew, ?_, ?_, ?_, ?_⟩
          · rw [upd_other]; exact J0.sub _ _ e
            rintro rfl; rw [J0.new] at e; cases e
          · rw [upd_other J0.ne]; exact J0.fl
          · rw [upd_self]
            refine congrArg some (congrArg AO.list ?_)
            rw [List.map_append (l₂ := [p ++ [true]])]
            show _ = _ ++ [Value.ref (adr T (p ++ [true]))]
            rw [adr_of hc]
          · intro q hq
            rcases List.mem_append.mp hq with h | h
            · exact J0.all q h
            · rw [List.mem_singleton.mp h, hc]; rfl
          · intro i q hq
            by_cases hi : i < (s).length
            · rw [List.getElem?_append_left hi] at hq; exact J0.pos i q hq
            · rw [List.getElem?_append_right (by omega)] at hq
              obtain ⟨h1, h2⟩ : i - (s).length = 0 ∧ p ++ [true] = q := by
                cases h : i - (s).length with
                | zero => rw [h] at hq; exact ⟨rfl, Option.some.inj hq⟩
                | succ n => rw [h] at hq; simp at hq
              rw [← h2, List.length_append, List.length_singleton]
              have := hps
              omega
        · have ho : opt T (p ++ [true]) = [] := by unfold opt; cases h : T (p ++ [true]) with | none => rfl | some z => rw [h] at hd; cases hd
          rw [ho, List.append_nil]; exact ⟨J0, g3⟩
      rintro ρ3 τ3 ⟨J1, k3⟩
      have hps1 : (s ++ opt T (p ++ [true])).length ≤ p.length + 1 := by
        rw [List.length_append]
        have : (opt T (p ++ [true])).length ≤ 1 := by unfold opt; split <;> simp
        omega
      refine js_seq (fun ρ' τ' => RInv σ T fd' ld (s ++ opt T (p ++ [true]) ++ opt T (p ++ [false])) f' ρ' τ' ∧ ρ'[3]? = some (some (.ref nd.a))) ?_ ?_
      · refine js_if (jt_cmp (je_zero O (je_loc O l3 k3 ⟨nd.a, _, _, _, rfl, (J1.sub _ _ (HT.node _ _ hn)), chV_plain, chV_plain, .ref, je_none (jc_isnot_none (asB ?_))⟩)))
        rw [chV_none]
        refine ⟨fun hd => ?_, fun hd => js_nil ?_⟩
        · obtain ⟨nc, hc⟩ : ∃ nc, T (p ++ [false]) = some nc := by cases h : T (p ++ [false]) with | none => rw [h] at hd; cases hd | some z => exact ⟨z, rfl⟩
          have ho : opt T (p ++ [false]) = [p ++ [false]] := by unfold opt; rw [hc]; rfl
          have hv : chV T p false = .ref nc.a := by unfold chV; rw [hc]
          refine js_cons (js_expr ?_ (inter O))
          refine je_append ?_
          refine je_loc O l2 J1.e2 ⟨ld, _, rfl, J1.ll, ?_⟩
          refine je_zero O (je_loc O l3 k3 ⟨nd.a, _, _, _, rfl, (J1.sub _ _ (HT.node _ _ hn)), chV_plain, chV_plain, .ref, ?_⟩)
          rw [hv]
          refine ⟨_, J1.ll, by rw [List.length_map]; have := J1.len HT; omega, rfl, ?_⟩
          refine js_nil ⟨?_, k3⟩
          rw [ho]
          refine ⟨J1.e1, J1.e2, J1.e4, fun b o e => ?_, J1.new, J1.ne, J1.fnew, ?_, ?_, ?_, ?_⟩
          · rw [upd_other]; exact J1.sub _ _ e
            rintro rfl; rw [J1.new] at e; cases e
          · rw [upd_other J1.ne]; exact J1.fl
          · rw [upd_self]
            refine congrArg some (congrArg AO.list ?_)
            rw [List.map_append (l₂ := [p ++ [false]])]
            show _ = _ ++ [Value.ref (adr T (p ++ [false]))]
            rw [adr_of hc]
          · intro q hq
            rcases List.mem_append.mp hq with h | h
            · exact J1.all q h
            · rw [List.mem_singleton.mp h, hc]; rfl
          · intro i q hq
            by_cases hi : i < (s ++ opt T (p ++ [true])).length
            · rw [List.getElem?_append_left hi] at hq; exact J1.pos i q hq
            · rw [List.getElem?_append_right (by omega)] at hq
              obtain ⟨h1, h2⟩ : i - (s ++ opt T (p ++ [true])).length = 0 ∧ p ++ [false] = q := by
                cases h : i - (s ++ opt T (p ++ [true])).length with
                | zero => rw [h] at hq; exact ⟨rfl, Option.some.inj hq⟩
                | succ n => rw [h] at hq; simp at hq
              rw [← h2, List.length_append, List.length_singleton]
              have := hps1
              omega
        · have ho : opt T (p ++ [false]) = [] := by unfold opt; cases h : T (p ++ [false]) with | none => rfl | some z => rw [h] at hd; cases hd
          rw [ho, List.append_nil]; exact ⟨J1, k3⟩
      rintro ρ4 τ4 ⟨J2, _⟩
      refine js_nil ⟨_, ?_, fd', ld, _, f', J2, ?_, rfl⟩
      · rw [meas_opt HT, meas_opt HT]
        have : meas T (s ++ [p]) = meas T s + Cn T p := by unfold meas; simp
        rw [this, Cn_some HT hn]; omega
      · rw [flat_opt HT, flat_opt HT, ← hf'e, ← hf]; simp
end Mine
end

section
open PySem PySem.W PyProof.Rows PySem.Spec PySem.Calls
namespace Mine

theorem Lsub.trans {T T' T'' : Trie} {σ τ : AH} (h : Lsub T T' σ) (k : Lsub T' T'' τ) (d : Dom σ τ) : Lsub T T'' σ := fun p nd e => by
  rcases k _ _ e with ⟨q, nd', h1, h2⟩ | h1
  · rcases h _ _ h1 with ⟨q', nd2, h3, h4⟩ | h3
    · exact .inl ⟨q', nd2, h3, h4.trans h2⟩
    · exact .inr (h2 ▸ h3)
  · exact .inr (d _ h1)
theorem Mut.trans {σ τ υ : AH} {T T' T'' : Trie} {R root : Addr} {m m' : Int} (h : Mut σ T R root τ T' m) (k : Mut τ T' R root υ T'' m') : Mut σ T R root υ T'' m' :=
  ⟨k.trie, k.at_, fun b o e hb hR hl => k.fram b o (h.fram b o e hb hR hl) hb hR fun p nd hp q => by
    rcases h.lsub _ _ hp with ⟨q', nd2, h3, h4⟩ | h3
    · exact hl _ _ h3 (q.trans h4.symm)
    · exact absurd (e.symm.trans (q ▸ h3)) (by simp), h.dom.trans k.dom, h.lsub.trans k.lsub h.dom⟩
theorem Mut.of_sub {σ σ' τ : AH} {T T' : Trie} {R root : Addr} {m : Int} (h : Sub σ σ') (k : Mut σ' T R root τ T' m) : Mut σ T R root τ T' m :=
  ⟨k.trie, k.at_, fun b o e hb hR hl => k.fram b o (h b o e) hb hR hl, fun b e => by
    have := k.dom b e
    cases e2 : σ b with
    | none => rfl
    | some o => exact absurd ((h _ _ e2).symm.trans this) (by simp), fun p nd e => by
    rcases k.lsub _ _ e with h1 | h1
    · exact .inl h1
    · right
      cases e2 : σ nd.l with
      | none => rfl
      | some o => rw [h _ _ e2] at h1; cases h1⟩
noncomputable def WfT (T : Trie) : Prop := ∀ p, ∀ q ∈ cts T p, q.2.path = p ∧ Good q.2
theorem mem_pre {T : Trie} {q : Addr × Row} : ∀ (n : Nat) {p : Path}, q ∈ pre T n p → ∃ p', q ∈ cts T p'
  | 0, p, h => ⟨p, h⟩
  | n + 1, p, h => by
    unfold pre at h
    rcases List.mem_append.mp h with h | h
    · exact ⟨p, h⟩
    · rcases List.mem_append.mp h with h | h
      · exact mem_pre n h
      · exact mem_pre n h
theorem mem_W {σ : AH} {T : Trie} {root : Addr} (H : TrieAt σ T root) {q : Addr × Row} {p : Path} (h : q ∈ cts T p) : q ∈ W T [] := by
  have step : ∀ (l : Path), q ∈ W T l.reverse → q ∈ W T [] := by
    intro l
    induction l with
    | nil => exact id
    | cons b l ih =>
      intro hq
      rw [List.reverse_cons] at hq
      refine ih ?_
      cases e : T l.reverse with
      | none => rw [W_none H (child_none H e b)] at hq; cases hq
      | some nd =>
        rw [W_some H e]
        cases b
        · exact List.mem_append_right _ (List.mem_append_left _ hq)
        · exact List.mem_append_right _ (List.mem_append_right _ hq)
  have := step p.reverse
  rw [List.reverse_reverse] at this
  refine this ?_
  unfold cts at h
  split at h
  · rename_i nd e
    rw [W_some H e]; exact List.mem_append_left _ h
  · cases h
noncomputable def keepF (f : Int) (rs : List (Addr × Row)) : List (Addr × Row) := rs.filter fun q => q.2.f != f
theorem keepF_idem {f : Int} {rs : List (Addr × Row)} : keepF f (keepF f rs) = keepF f rs := by unfold keepF; simp
noncomputable def removeFaceS : SpecT := fun vs σ Q => ∃ (R root : Addr) (m f : Int) (T : Trie), vs = [.ref R, vi f] ∧ σ R = some (.routes (.ref root) m) ∧ TrieAt σ T root ∧ (W T []).length ≤ 900 ∧ (∀ p, (cts T p).length ≤ 900) ∧ WfT T ∧
  ∀ τ T', Mut σ T R root τ T' (m - (W T []).countP (fun q => q.2.f == f)) → (∀ p, cts T' p = keepF f (cts T p)) → Q (vi ((W T []).countP (fun q => q.2.f == f))) τ
structure FInv (σ : AH) (T : Trie) (R root : Addr) (m f : Int) (ca d : Addr) (k : Nat) (ρ : LE) (τ : AH) (T' : Trie) : Prop where
  e0 : ρ[0]? = some (some (.ref R))
  e1 : ρ[1]? = some (some (vi (((W T []).take k).countP (fun q => q.2.f == f))))
  e4 : 4 ≤ ρ.length
  mu : Mut σ T R root τ T' m
  ce : τ ca = some (.cell (some (vi f)))
  dl : τ d = some (.list ((W T []).map fun q => .ref q.1))
  off : ∀ p nd, T' p = some nd → d ≠ nd.l
  some' : ∀ p, cts T' p = cts T p ∨ cts T' p = keepF f (cts T p)
  done : ∀ i q, i < k → (W T [])[i]? = some q → q.2.f = f → cts T' q.2.path = keepF f (cts T q.2.path)
theorem clos1 {scope : Scope} {env : Env} {x : PySem.Str} {a : Addr} {y z : PySem.Str × NameKind} (h : scope.names = [y, z, (x, .free)]) (hy : (y.2 == NameKind.free) = false) (hz : (z.2 == NameKind.free) = false) (hc : env.cells.lookup x = some a) : closureFor scope env = pure [(x, a)] := by
  unfold closureFor
  rw [h]
  obtain ⟨y1, y2⟩ := y
  obtain ⟨z1, z2⟩ := z
  simp only at hy hz
  simp only [List.forIn_cons, List.forIn_nil, hy, hz, cellOf, hc]
  rfl
theorem v_remove_face (G : GP) : Valid G (.ref 220) 4 removeFaceS := by
  refine valid_defC (n := 3) [S "self", S "face"] [S "self", S "many", S "route", S "path"] [] (fun vs => [vs[0]?, none, none, none]) (fun vs x => if x = S "face" then vs[1]? else none) (by k_is) (by k_is) ?_ ?_ rfl rfl rfl ?_ ?_ ?_ ?_ ?_ ?_ ?_ ?_
  · rintro vs σ Q ⟨R, root, m, f, T, rfl, h0, HT, hz, hz2, hw, hQ⟩; rfl
  · intro us hl
    rcases us with _ | ⟨u0, _ | ⟨u1, _ | ⟨u2, us⟩⟩⟩ <;> first | (exfalso; simp at hl; done) | rfl
  · intro us hl
    rcases us with _ | ⟨u0, _ | ⟨u1, _ | ⟨u2, us⟩⟩⟩ <;> first | (exfalso; simp at hl; done) | rfl
  · decide +kernel
  · intro us hl
    rcases us with _ | ⟨u0, _ | ⟨u1, _ | ⟨u2, us⟩⟩⟩ <;> first | (exfalso; simp at hl; done) | skip
    intro i x hx v hv
    rcases i with _ | _ | _ | _ | i <;> simp at hv hx
    subst hx hv
    exact ⟨u0, rfl, rfl⟩
  · intro us hl x
    rcases us with _ | ⟨u0, _ | ⟨u1, _ | ⟨u2, us⟩⟩⟩ <;> first | (exfalso; simp at hl; done) | skip
    show (if x = S "face" then some u1 else none).map er = if x = S "face" then some (er u1) else none
    split <;> rfl
  · decide +kernel
  · decide +kernel
  · decide +kernel
  · rintro c L' O hnm hgl hcs hcl vs σ Q ⟨R, root, m, f, T, rfl, h0, HT, hz, hz2, hw, hQ⟩ hfresh
    show JX G c _ _ (execs (_ :: _) c.env) _ _
    have l0 : LocAt c 0 (S "self") := by unfold LocAt; rw [hnm]; rfl
    have l1 : LocAt c 1 (S "many") := by unfold LocAt; rw [hnm]; rfl
    have l2 : LocAt c 2 (S "route") := by unfold LocAt; rw [hnm]; rfl
    have l3 : LocAt c 3 (S "path") := by unfold LocAt; rw [hnm]; rfl
    have hcl1 : c.cl = [(S "face", L')] := hcl
    rw [hcl1] at hfresh ⊢
    have hca : σ L' = none := hfresh _ (.head _)
    have hlook : c.cl.lookup (S "face") = some L' := by rw [hcl1]; rfl
    have hkc : c.cs.names.lookup (S "face") = some .cell := by rw [hcs]; rfl
    show JX G c [some (.ref R), none, none, none] (upd σ L' (.cell (some (vi f)))) _ _ _
    have hsc : Sub σ (upd σ L' (.cell (some (vi f)))) := Sub.upd hca
    have hQ' : ∀ τ T', Mut (upd σ L' (.cell (some (vi f)))) T R root τ T' (m - (W T []).countP (fun q => q.2.f == f)) → (∀ p, cts T' p = keepF f (cts T p)) → Q (vi ((W T []).countP (fun q => q.2.f == f))) τ := fun τ T' M h => hQ τ T' (M.of_sub hsc) h
    have h0' := hsc _ _ h0
    have HT' := HT.sub hsc
    have hce : upd σ L' (.cell (some (vi f))) L' = some (.cell (some (vi f))) := upd_self
    clear hQ h0 HT hca hfresh
    generalize upd σ L' (.cell (some (vi f))) = σ1 at hQ' h0' HT' hce ⊢
    refine js_cons (js_assign O l1 (je_int ?_))
    refine js_cons ?_
    refine js_for_list ?_ (fun _ _ _ _ _ _ _ _ hq => go_name hq)
    refine je_meth0 (C := 244) (ns := nRoutes) O (m_rows G) (v_rows G) (by decide) ?_
    refine je_loc O l0 rfl ⟨R, _, _, rfl, h0', rfl, rfl, rfl, ?_⟩
    refine ⟨R, root, m, T, rfl, h0', HT', hz, fun τ0 d hd hsub hdl => ?_⟩
    have lt32 : ∀ q ∈ W T [], q.2.path ∈ [q.2.path] ∧ q ∈ cts T q.2.path ∧ Good q.2 := fun q hq => by
      obtain ⟨p, hp⟩ := mem_pre _ hq
      obtain ⟨h1, h2⟩ := hw p q hp
      exact ⟨.head _, h1 ▸ hp, h2⟩
    refine ⟨d, _, fun k ρ τ => ∃ T', FInv σ1 T R root m f L' d k ρ τ T', rfl, hdl, ⟨T, rfl, rfl, by simp, ⟨HT'.sub hsub, hsub _ _ h0', .of_sub hsub, fun b e => ?_, .refl⟩, hsub _ _ hce, hdl, fun p nd h e => ?_, fun p => .inl rfl, fun i q hi => absurd hi (Nat.not_lt_zero _)⟩, ?_, ?_, ?_⟩
    · cases e2 : σ1 b with
      | none => rfl
      | some o => rw [hsub _ _ e2] at e; cases e
    · rw [e, HT'.lst _ _ h] at hd; cases hd
    · rintro k ρ τ ⟨T', I⟩; exact I.dl
    · rintro k ρ τ w ⟨T', I⟩ hw'
      rw [List.getElem?_map] at hw'
      cases hq : (W T [])[k]? with
      | none => rw [hq] at hw'; cases hw'
      | some q =>
      rw [hq] at hw'
      cases hw'
      have hqm : q ∈ W T [] := List.mem_of_getElem? hq
      obtain ⟨_, hqc, hqg⟩ := lt32 q hqm
      have htake : ((W T []).take (k + 1)).countP (fun q => q.2.f == f) = ((W T []).take k).countP (fun q => q.2.f == f) + if q.2.f == f then 1 else 0 := by
        rw [List.take_add_one, hq, List.countP_append]
        show _ + List.countP _ [q] = _
        rw [List.countP_singleton]
      have hqσ : σ1 q.1 = some q.2.ao := by
        obtain ⟨p, hp⟩ := mem_pre _ hqm
        unfold cts at hp
        split at hp
        · rename_i nd e; exact HT'.rts _ _ e q hp
        · cases hp
      have hqτ : τ q.1 = some q.2.ao := I.mu.fram _ _ hqσ rfl (fun e => by rw [e, h0'] at hqσ; cases hqσ) (fun p nd h e => by rw [e, HT'.lst _ _ h] at hqσ; cases hqσ)
      refine jas_name O l2 ?_
      have e0 : (ρ.set 2 (some (.ref q.1)))[0]? = some (some (.ref R)) := by rw [List.getElem?_set_ne (by decide)]; exact I.e0
      have e1 : (ρ.set 2 (some (.ref q.1)))[1]? = some (some (vi (((W T []).take k).countP (fun q => q.2.f == f)))) := by rw [List.getElem?_set_ne (by decide)]; exact I.e1
      have e2 : (ρ.set 2 (some (.ref q.1)))[2]? = some (some (.ref q.1)) := by rw [List.getElem?_set_self (by have := I.e4; omega)]
      have e4 : 4 ≤ (ρ.set 2 (some (.ref q.1))).length := by rw [List.length_set]; exact I.e4
      generalize ρ.set 2 (some (.ref q.1)) = ρ1 at e0 e1 e2 e4 ⊢
      have rq : ∀ {υ : AH} {k : Int → Int → Int → Int → Int → Prop}, υ q.1 = some q.2.ao → k q.2.n q.2.p q.2.g q.2.f q.2.m → RtAt υ (.ref q.1) k := fun h hk => ⟨q.1, _, _, _, _, _, rfl, h, hk⟩
      refine js_cons (js_if (jt_cmp (je_face O (je_loc O l2 e2 (rq hqτ (je_cell O hlook I.ce (jc_eq (asB ?_)) hkc rfl))))))
      refine ⟨fun hb => ?_, fun hb => js_nil (js_nil ⟨T', e0, ?_, e4, I.mu, I.ce, I.dl, I.off, I.some', fun i q' hi h hf => ?_⟩)⟩
      rotate_left
      · rw [htake, hb]; exact e1
      · by_cases hik : i = k
        · subst hik; rw [hq] at h; cases h
          rw [hf] at hb; simp at hb
        · exact I.done i q' (by omega) h hf
      have hqf : q.2.f = f := by simpa using hb
      refine js_cons (js_assign O l3 ?_)
      refine je_meth (C := 244) (ns := nRoutes) O (m_path G) (v_path G) (by decide) ?_
      refine je_loc O l0 e0 ⟨R, _, _, rfl, I.mu.at_, rfl, rfl, rfl, ?_⟩
      refine ja_cons (je_net O (je_loc O l2 e2 (rq hqτ (ja_cons (je_prefix O (je_loc O l2 e2 (rq hqτ (ja_cons (je_bool (ja_nil ?_))))))))))
      have hp0 := hqg.p0
      have hp1 := hqg.p1
      refine ⟨R, root, m, q.2.n, q.2.p.toNat, false, T', by rw [show ((q.2.p.toNat : Nat) : Int) = q.2.p by omega], by omega, I.mu.at_, I.mu.trie, fun τ2 T2 j pd P => ?_⟩
      obtain ⟨rfl, hs2⟩ := P.same rfl
      have hj := P.hj
      obtain ⟨nd, hn⟩ := Option.isSome_iff_exists.mp (P.all j (Nat.le_refl _))
      have hnode := P.trie.node _ _ hn
      have hlst := P.trie.lst _ _ hn
      have hRτ : τ2 R = some (.routes (.ref root) m) := hs2 _ _ I.mu.at_
      have hback : (pathV T2 q.2.n j)[((-1 : Int) + (pathV T2 q.2.n j).length).toNat]? = some (.ref nd.a) := by
        rw [pathV_len, show ((-1 : Int) + ((j + 1 : Nat) : Int)).toNat = j by omega]
        exact pathV_get (Nat.le_refl _) hn
      have f0 : (ρ1.set 3 (some (.ref pd)))[0]? = some (some (.ref R)) := by rw [List.getElem?_set_ne (by decide)]; exact e0
      have f1 : (ρ1.set 3 (some (.ref pd)))[1]? = some (some (vi (((W T []).take k).countP (fun q => q.2.f == f)))) := by rw [List.getElem?_set_ne (by decide)]; exact e1
      have f2 : (ρ1.set 3 (some (.ref pd)))[2]? = some (some (.ref q.1)) := by rw [List.getElem?_set_ne (by decide)]; exact e2
      have f3 : (ρ1.set 3 (some (.ref pd)))[3]? = some (some (.ref pd)) := by rw [List.getElem?_set_self (by omega)]
      have f4 : 4 ≤ (ρ1.set 3 (some (.ref pd))).length := by rw [List.length_set]; exact e4
      show JX G c (ρ1.set 3 (some (.ref pd))) _ _ _ _
      generalize ρ1.set 3 (some (.ref pd)) = ρ2 at f0 f1 f2 f3 f4 ⊢
      refine js_cons (js_set O (fld_routes G) ?_)
      refine je_listcomp (clos1 rfl rfl rfl hlook) (by decide +kernel) rfl (by decide +kernel) rfl ?_
      refine je_routes O (je_sub (je_loc O l3 f3 ?_))
      walk_at "JWS"
      refine ⟨1, rfl, ?_⟩
      show JS2 _ _ _ _ _ _ _ _ _
      refine js2_back P.list (by decide) (by rw [pathV_len]; omega) (by decide) hback ?_
      refine ⟨nd.a, _, _, _, rfl, hnode, chV_plain, chV_plain, .ref, ?_⟩
      have hndlen : nd.rs.length ≤ 900 := by
        have h1 := I.some' (pathOf q.2.n j)
        rw [cts_some hn] at h1
        rcases h1 with h1 | h1
        · rw [h1]; exact hz2 _
        · rw [h1]; unfold keepF; exact Nat.le_trans (List.length_filter_le _ _) (hz2 _)
      refine ⟨nd.l, nd.rs.map fun q => .ref q.1, fun i ys υ => υ = τ2 ∧ ys = (keepF f (nd.rs.take i)).map (fun q => Value.ref q.1), rfl, by rw [List.length_map]; omega, ⟨rfl, rfl⟩, fun i ys υ h => by rw [h.1]; exact hlst, ?_, ?_⟩
      · rintro i ys υ w hwi ⟨rfl, rfl⟩ C oC mm u hC ho hm eu
        rw [List.getElem?_map] at hwi
        cases hr : nd.rs[i]? with
        | none => rw [hr] at hwi; cases hwi
        | some r =>
        rw [hr] at hwi
        cases hwi
        have hrm : r ∈ nd.rs := List.mem_of_getElem? hr
        have hrτ := P.trie.rts _ _ hn r hrm
        have up : Sub υ (upd υ C (.raw oC)) := Sub.upd hC
        have hk1 : keepF f (nd.rs.take (i + 1)) = keepF f (nd.rs.take i) ++ if r.2.f != f then [r] else [] := by
          unfold keepF
          rw [List.take_add_one, hr, List.filter_append]
          show _ ++ List.filter _ [r] = _
          congr 1
          by_cases h : (r.2.f != f) = true <;> simp [List.filter, h]
        refine jt_tests_one (jt_cmp (je_face O (je_cloc upd_self ho hm eu ?_ rfl rfl rfl)))
        refine ⟨r.1, _, _, _, _, _, rfl, up _ _ hrτ, ?_⟩
        refine je_ccell rfl (up _ _ (hs2 _ _ I.ce)) (jc_ne (asB ?_)) rfl (by unfold Env.kindOf compEnvC relabel; simp only; show List.lookup (S "face") (List.map _ _) = _; unfold Env.kindOf; show List.lookup (S "face") (List.map (fun (x : PySem.Str × NameKind) => if (x.2 == NameKind.free && c.cs.kind == ScopeKind.function && c.cs.names.lookup x.1 == some NameKind.cell) = true then (x.1, NameKind.cell) else (x.1, x.2)) _) = _; rw [hcs]; rfl) rfl
        refine ⟨fun hg => ?_, fun hg => ⟨υ, hC, fun b o e => e, rfl, ?_⟩⟩
        · refine je_cloc upd_self ho hm eu ?_ rfl rfl rfl
          refine ⟨υ, hC, fun b o e => e, rfl, ?_⟩
          rw [hk1, if_pos hg, List.map_append]; rfl
        · rw [hk1, if_neg (by rw [hg]; simp), List.append_nil]
      · rintro υ ys ⟨rfl, rfl⟩ l' hl'
        rw [List.length_map, List.take_length]
        have hdl' : pd ≠ l' := by rintro rfl; rw [P.list] at hl'; cases hl'
        have hal : nd.a ≠ l' := Ne.symm (P.trie.fresh hl' hn).1
        have hda : pd ≠ nd.a := by intro e; have := P.list; rw [e, hnode] at this; cases this
        have hRl : R ≠ l' := by rintro rfl; rw [hRτ] at hl'; cases hl'
        have hRa : R ≠ nd.a := by intro e; rw [e, hnode] at hRτ; cases hRτ
        refine je_sub (je_loc O l3 f3 ?_)
        walk_at "JWS"
        refine ⟨1, rfl, ?_⟩
        show JS2 _ _ _ _ _ _ _ _ _
        refine js2_back (by rw [upd_other hdl']; exact P.list) (by decide) (by rw [pathV_len]; omega) (by decide) hback ?_
        refine ⟨nd.a, _, .branch _ _ (.ref l'), _, _, _, _, rfl, (by rw [upd_other hal]; exact hnode), rfl, rfl, .on (by decide) (.on (by decide) .here), by decide, ?_⟩
        have hkr : RtsAt υ (keepF f nd.rs) := fun r hr => P.trie.rts _ _ hn r (List.mem_filter.mp hr).1
        have HP := P.trie.put hn hl' hkr
        have M2 : Mut υ T2 R root (upd (upd υ l' (.list ((keepF f nd.rs).map fun q => .ref q.1))) nd.a (.branch (chV T2 (pathOf q.2.n j) false) (chV T2 (pathOf q.2.n j) true) (.ref l'))) (setT T2 (pathOf q.2.n j) (some ⟨nd.a, l', keepF f nd.rs⟩)) m := by
          refine ⟨HP, by rw [upd_other hRa, upd_other hRl]; exact hRτ, fun b o e hbr hbR hbl => ?_, Dom.trans .upd .upd, fun p nd' h => ?_⟩
          · rw [upd_other, upd_other]; exact e
            · rintro rfl; rw [hl'] at e; cases e
            · rintro rfl; rw [hnode] at e; cases e; cases hbr
          · by_cases hp : p = pathOf q.2.n j
            · subst hp; rw [setT_self] at h; cases h; exact .inr hl'
            · rw [setT_other hp] at h; exact .inl ⟨p, nd', h, rfl⟩
        have hqυ : υ q.1 = some q.2.ao := hs2 _ _ hqτ
        have keepQ : ∀ {o : AO} {b : Addr}, υ b = some o → isBr o = false → b ≠ l' → upd (upd υ l' (.list ((keepF f nd.rs).map fun q => .ref q.1))) nd.a (.branch (chV T2 (pathOf q.2.n j) false) (chV T2 (pathOf q.2.n j) true) (.ref l')) b = some o := fun {o b} e hbr hb => by
          rw [upd_other, upd_other hb]; exact e
          rintro rfl; rw [hnode] at e; cases e; cases hbr
        have fresh_ne : ∀ {o : AO} {b : Addr}, υ b = some o → b ≠ l' := fun {o b} e q => by rw [q, hl'] at e; cases e
        refine js_cons (js_expr ?_ (inter O))
        refine je_meth (C := 244) (ns := nRoutes) O (m_prune G) (v_prune G) (by decide) ?_
        refine je_loc O l0 f0 ⟨R, _, _, rfl, M2.at_, rfl, rfl, rfl, ?_⟩
        refine ja_cons (je_net O (je_loc O l2 f2 (rq (keepQ hqυ rfl (fresh_ne hqυ)) (ja_cons (je_loc O l3 f3 (ja_nil ?_))))))
        refine ⟨R, root, pd, q.2.n, j, _, rfl, by omega, HP, fun i hi => some_put hn (P.all i hi), ?_, fun τ4 T4 hless hfr hdm HT4 => ⟨rfl, ?_⟩⟩
        · rw [pathV_put hn]; exact keepQ P.list rfl (fresh_ne P.list)
        refine js_cons (js_assign O l1 (je_bin (je_loc O l1 f1 (je_int (jb_add ?_)))))
        have M3 : Mut (upd (upd υ l' (.list ((keepF f nd.rs).map fun q => .ref q.1))) nd.a (.branch (chV T2 (pathOf q.2.n j) false) (chV T2 (pathOf q.2.n j) true) (.ref l'))) (setT T2 (pathOf q.2.n j) (some ⟨nd.a, l', keepF f nd.rs⟩)) R root τ4 T4 m :=
          ⟨HT4, hfr _ _ M2.at_ rfl, .of_framB hfr, hdm, fun p nd' h => .inl ⟨p, nd', hless.1 _ _ h, rfl⟩⟩
        have M1 : Mut τ T2 R root υ T2 m := ⟨P.trie, hRτ, .of_sub hs2, P.dom, P.lsub⟩
        have hc4 : ∀ p, cts T4 p = setC (cts T2) (pathOf q.2.n j) (keepF f (cts T2 (pathOf q.2.n j))) p := fun p => by rw [hless.2 p, cts_set, cts_some hn]
        refine js_nil (js_nil ⟨T4, ?_, ?_, ?_, I.mu.trans (M1.trans (M2.trans M3)), ?_, ?_, ?_, fun p => ?_, fun i q' hi h hf => ?_⟩)
        · rw [List.getElem?_set_ne (by decide)]; exact f0
        · rw [List.getElem?_set_self (by omega), htake, hb]; rfl
        · rw [List.length_set]; exact f4
        · exact hfr _ _ (keepQ (hs2 _ _ I.ce) rfl (fresh_ne (hs2 _ _ I.ce))) rfl
        · exact hfr _ _ (keepQ (hs2 _ _ I.dl) rfl (fresh_ne (hs2 _ _ I.dl))) rfl
        · intro p nd' h e
          have h' := hless.1 _ _ h
          by_cases hp : p = pathOf q.2.n j
          · subst hp; rw [setT_self] at h'; cases h'
            exact fresh_ne (hs2 _ _ I.dl) e
          · rw [setT_other hp] at h'; exact I.off _ _ h' e
        · rw [hc4]
          unfold setC
          by_cases hp : p = pathOf q.2.n j
          · rw [if_pos hp, hp]
            rcases I.some' (pathOf q.2.n j) with h | h
            · rw [h]; exact .inr rfl
            · rw [h, keepF_idem]; exact .inr rfl
          · rw [if_neg hp]; exact I.some' p
        · have key : cts T2 q'.2.path = keepF f (cts T q'.2.path) ∨ (q'.2.path = pathOf q.2.n j) → cts T4 q'.2.path = keepF f (cts T q'.2.path) := fun hh => by
            rw [hc4]
            unfold setC
            by_cases hp : q'.2.path = pathOf q.2.n j
            · rw [if_pos hp, hp]
              rcases I.some' (pathOf q.2.n j) with h | h
              · rw [h]
              · rw [h, keepF_idem]
            · rw [if_neg hp]
              rcases hh with hh | hh
              · exact hh
              · exact absurd hh hp
          by_cases hik : i = k
          · subst hik; rw [hq] at h; cases h
            refine key ?_
            by_cases hjK : j = q.2.p.toNat
            · right; unfold Row.path; rw [hjK]
            · left
              have hs : T2 (pathOf q.2.n (j + 1)) = none := by
                rcases P.stop with hs | ⟨_, hs⟩
                · exact absurd hs hjK
                · exact hs
              have hnone : T2 q.2.path = none := cts_none I.mu.trie hs _ (by omega)
              have hcn : cts T2 q.2.path = [] := by unfold cts; rw [hnone]
              rcases I.some' q.2.path with h | h
              · rw [hcn] at h; rw [← h] at hqc; cases hqc
              · exact h
          · exact key (.inl (I.done i q' (by omega) h hf))
    · rintro ρ τ ⟨T', I⟩
      rw [List.length_map] at I
      have hmany := I.e1
      rw [List.take_length] at hmany
      refine js_cons (js_set O (fld_many G) ?_)
      refine je_bin (je_many O (je_loc O l0 I.e0 ⟨R, _, _, rfl, I.mu.at_, .ref, je_loc O l1 hmany (jb_sub (je_loc O l0 I.e0 ?_))⟩))
      refine ⟨R, _, .routes (.ref root) (m - (W T []).countP (fun q => q.2.f == f)), _, _, _, _, rfl, I.mu.at_, rfl, rfl, .on (by decide) .here, by decide, ?_⟩
      refine js_cons (js_ret (je_loc O l1 hmany ?_))
      have HR : TrieAt (upd τ R (.routes (.ref root) (m - (W T []).countP (fun q => q.2.f == f)))) T' root := I.mu.trie.other fun p nd h => by
        have e0 := I.mu.at_
        refine ⟨fun e => ?_, fun e => ?_, fun r hr e => ?_⟩
        · have := I.mu.trie.node _ _ h; rw [← e, e0] at this; cases this
        · have := I.mu.trie.lst _ _ h; rw [← e, e0] at this; cases this
        · have := I.mu.trie.rts _ _ h r hr; rw [← e, e0] at this; cases this
      refine hQ' _ T' ⟨HR, upd_self, fun b o e hbr hbR hbl => by rw [upd_other hbR]; exact I.mu.fram b o e hbr hbR hbl, I.mu.dom.trans .upd, I.mu.lsub⟩ fun p => ?_
      rcases I.some' p with h | h
      · by_cases hx : ∃ q ∈ cts T p, q.2.f = f
        · obtain ⟨q, hq, hqf⟩ := hx
          have hqw := mem_W HT' hq
          obtain ⟨i, hi, e⟩ := List.getElem_of_mem hqw
          have := I.done i q hi (by rw [List.getElem?_eq_getElem hi, e]) hqf
          rw [(hw p q hq).1] at this
          exact this
        · rw [h]
          unfold keepF
          rw [List.filter_eq_self.mpr]
          intro q hq
          have : ¬ q.2.f = f := fun e => hx ⟨q, hq, e⟩
          simpa using this
      · exact h
end Mine
end

section
open PySem PySem.W PyProof.Rows PySem.Spec PySem.Calls
namespace Mine

theorem t_take (G : GP) : TopFn G (S "_law_take") 262 := ⟨by k_is, by k_is⟩
theorem t_one (G : GP) : TopFn G (S "_law_one") 269 := ⟨by k_is, by k_is⟩
theorem t_head (G : GP) : TopFn G (S "_law_head") 276 := ⟨by k_is, by k_is⟩
theorem t_net (G : GP) : TopFn G (S "_law_net") 283 := ⟨by k_is, by k_is⟩
theorem t_route (G : GP) : TopFn G (S "_law_route") 290 := ⟨by k_is, by k_is⟩
noncomputable def Src (σ : AH) (s : Addr) : Prop := ∃ a b : Int, σ s = some (.list [vi a, vi b]) ∧ 0 ≤ b ∧ b < 2147483647
noncomputable def Ext (s : Addr) (σ τ : AH) : Prop := (∀ x o, x ≠ s → σ x = some o → τ x = some o) ∧ Src τ s ∧ Dom σ τ
theorem Ext.trans {s : Addr} {σ τ υ : AH} (h : Ext s σ τ) (k : Ext s τ υ) : Ext s σ υ := ⟨fun x o hx e => k.1 x o hx (h.1 x o hx e), k.2.1, h.2.2.trans k.2.2⟩
theorem Ext.of_sub {s : Addr} {σ τ : AH} (h : Sub σ τ) (hs : Src σ s) : Ext s σ τ := ⟨fun x o _ e => h _ _ e, by obtain ⟨a, b, h1, h2⟩ := hs; exact ⟨a, b, h _ _ h1, h2⟩, fun x e => by
  cases e2 : σ x with
  | none => rfl
  | some o => exact absurd ((h _ _ e2).symm.trans e) (by simp)⟩
theorem Src.sub {s : Addr} {σ τ : AH} (hs : Src σ s) (h : Sub σ τ) : Src τ s := by obtain ⟨a, b, h1, h2⟩ := hs; exact ⟨a, b, h _ _ h1, h2⟩
theorem Ext.src {s : Addr} {σ : AH} (hs : Src σ s) {a b : Int} (h0 : 0 ≤ b) (h1 : b < 2147483647) : Ext s σ (upd σ s (.list [vi a, vi b])) := ⟨fun x o hx e => by rw [upd_other hx]; exact e, ⟨a, b, upd_self, h0, h1⟩, .upd⟩
noncomputable def takeS : SpecT := fun vs σ Q => ∃ (s : Addr) (t : Int), vs = [.ref s, vi t] ∧ 1 ≤ t ∧ t ≤ 1000 ∧ Src σ s ∧ ∀ r τ, 0 ≤ r → r < t → Ext s σ τ → (∀ x, x ≠ s → τ x = σ x) → Q (vi r) τ
theorem v_take (G : GP) : Valid G (.ref 262) 1 takeS := by
  refine valid_def (n := 0) [S "source", S "top"] [S "source", S "top", S "drawn"] [] 2 (by k_is) (by k_is) ?_ ?_ rfl rfl rfl ?_ ?_ ?_ ?_ rfl rfl ?_
  · rintro vs σ Q ⟨s, t, rfl, ht, ht2, ⟨a, b, hs, hb0, hb1⟩, hQ⟩; rfl
  · intro us hl
    rcases us with _ | ⟨u0, _ | ⟨u1, _ | ⟨u2, us⟩⟩⟩ <;> first | (exfalso; simp at hl; done) | rfl
  · decide +kernel
  · decide +kernel
  · decide +kernel
  · decide +kernel
  · rintro c O hnm hgl vs σ Q ⟨s, t, rfl, ht, ht2, ⟨a, b, hs, hb0, hb1⟩, hQ⟩
    show JX G c _ _ (execs (_ :: _) c.env) _ _
    have l0 : LocAt c 0 (S "source") := by unfold LocAt; rw [hnm]; rfl
    have l1 : LocAt c 1 (S "top") := by unfold LocAt; rw [hnm]; rfl
    have l2 : LocAt c 2 (S "drawn") := by unfold LocAt; rw [hnm]; rfl
    have HS : Src σ s := ⟨a, b, hs, hb0, hb1⟩
    refine js_cons (js_if (jt_cmp (je_sub (je_loc O l0 rfl (je_int ?_)))))
    refine js2_list hs (by decide) (by decide) (v := vi a) rfl ?_
    refine je_int (jc_gt (asB ⟨fun hb => ?_, fun hb => js_nil ?_⟩))
    · refine js_cons (js_assign O l2 (je_bin (je_sub (je_loc O l0 rfl (je_int ?_)))))
      refine js2_list hs (by decide) (by decide) (v := vi a) rfl ?_
      refine je_loc O l1 rfl (jb_modp (by omega) ?_)
      refine js_cons (js_setitem ?_)
      refine je_bin (je_sub (je_loc O l0 rfl (je_int ?_)))
      refine js2_list hs (by decide) (by decide) (v := vi a) rfl ?_
      refine je_loc O l1 rfl (jb_divp (by omega) (by omega) ?_)
      refine je_loc O l0 rfl (je_int ⟨s, _, 0, rfl, hs, rfl, by simp, by simp, ?_⟩)
      refine js_cons (js_ret (je_loc O l2 rfl ?_))
      exact hQ _ _ (Int.emod_nonneg _ (by omega)) (Int.emod_lt_of_pos _ (by omega)) (Ext.src HS hb0 hb1) fun x hx => upd_other hx
    · refine js_cons (js_setitem ?_)
      refine je_bin (je_bin (je_bin (je_sub (je_loc O l0 rfl (je_int ?_)))))
      refine js2_list hs (by decide) (by decide) (v := vi b) rfl ?_
      refine je_int (jb_mulr (by decide) (je_int (jb_add (je_int (jb_modp (by decide) ?_)))))
      have h0 : 0 ≤ (b * 39373 + 7) % 2147483647 := Int.emod_nonneg _ (by decide)
      have h1 : (b * 39373 + 7) % 2147483647 < 2147483647 := Int.emod_lt_of_pos _ (by decide)
      generalize (b * 39373 + 7) % 2147483647 = b' at h0 h1 ⊢
      refine je_loc O l0 rfl (je_int ⟨s, _, 1, rfl, hs, rfl, by simp, by simp, ?_⟩)
      refine js_cons (js_ret ?_)
      show JE _ _ _ (upd σ s (.list [vi a, vi b'])) _ _
      refine je_bin (je_bin (je_bin (je_bin (je_sub (je_loc O l0 rfl (je_int ?_))))))
      refine js2_list upd_self (by decide) (by decide) (v := vi b') rfl ?_
      refine je_sub (je_loc O l0 rfl (je_int ?_))
      refine js2_list upd_self (by decide) (by decide) (v := vi b') rfl ?_
      refine jb_mulr (by omega) (je_int (jb_modp (by decide) (je_int (jb_divp (by decide) (by decide) (je_loc O l1 rfl (jb_modp (by omega) ?_))))))
      exact hQ _ _ (Int.emod_nonneg _ (by omega)) (Int.emod_lt_of_pos _ (by omega)) (Ext.src HS h0 h1) fun x hx => upd_other hx

noncomputable def oneS : SpecT := fun vs σ Q => ∃ (s l : Addr) (ws : List Value), vs = [.ref s, .ref l] ∧ σ l = some (.list ws) ∧ ws ≠ [] ∧ ws.length ≤ 1000 ∧ l ≠ s ∧ Src σ s ∧ ∀ w τ, w ∈ ws → Ext s σ τ → (∀ x, x ≠ s → τ x = σ x) → Q w τ
noncomputable def headS : SpecT := fun vs σ Q => ∃ a p : Int, vs = [vi a, vi p] ∧ 0 ≤ p ∧ p ≤ 32 ∧ Q (vi (a / pw p)) σ
theorem v_one (G : GP) : Valid G (.ref 269) 2 oneS := by
  refine valid_def (n := 1) [S "source", S "things"] [S "source", S "things"] [S "_law_take", S "len"] 2 (by k_is) (by k_is) ?_ ?_ rfl rfl rfl ?_ ?_ ?_ ?_ rfl rfl ?_
  · rintro vs σ Q ⟨s, l, ws, rfl, hl, hne, hz, hls, HS, hQ⟩; rfl
  · intro us hl
    rcases us with _ | ⟨u0, _ | ⟨u1, _ | ⟨u2, us⟩⟩⟩ <;> first | (exfalso; simp at hl; done) | rfl
  · decide +kernel
  · decide +kernel
  · decide +kernel
  · decide +kernel
  · rintro c O hnm hgl vs σ Q ⟨s, l, ws, rfl, hl, hne, hz, hls, HS, hQ⟩
    show JX G c _ _ (execs (_ :: _) c.env) _ _
    have l0 : LocAt c 0 (S "source") := by unfold LocAt; rw [hnm]; rfl
    have l1 : LocAt c 1 (S "things") := by unfold LocAt; rw [hnm]; rfl
    have g0 : GlAt c (S "_law_take") := by unfold GlAt; rw [hgl]; simp
    have g1 : GlAt c (S "len") := by unfold GlAt; rw [hgl]; simp
    have hlen : 0 < ws.length := List.length_pos_iff.mpr hne
    refine js_cons (js_ret (je_sub (je_loc O l1 rfl ?_)))
    refine je_call O g0 (t_take G) (v_take G) (by decide) ?_
    refine ja_cons (je_loc O l0 rfl (ja_cons ?_))
    refine je_len O g1 (b_len G) (je_loc O l1 rfl ⟨l, _, rfl, hl, hz, ja_nil ?_⟩)
    refine ⟨s, ws.length, rfl, by omega, by omega, HS, fun r τ h0 h1 hE hK => ?_⟩
    have hr : r.toNat < ws.length := by omega
    show JS2 _ _ _ _ _ _ _ _ _
    refine js2_list (hE.1 _ _ hls hl) h0 (by omega) (List.getElem?_eq_getElem hr) ?_
    exact hQ _ τ (List.getElem_mem hr) hE hK
theorem v_head (G : GP) : Valid G (.ref 276) 1 headS := by
  refine valid_def (n := 0) [S "address", S "prefix"] [S "address", S "prefix"] [] 2 (by k_is) (by k_is) ?_ ?_ rfl rfl rfl ?_ ?_ ?_ ?_ rfl rfl ?_
  · rintro vs σ Q ⟨a, p, rfl, h0, h1, hQ⟩; rfl
  · intro us hl
    rcases us with _ | ⟨u0, _ | ⟨u1, _ | ⟨u2, us⟩⟩⟩ <;> first | (exfalso; simp at hl; done) | rfl
  · decide +kernel
  · decide +kernel
  · decide +kernel
  · decide +kernel
  · rintro c O hnm hgl vs σ Q ⟨a, p, rfl, h0, h1, hQ⟩
    show JX G c _ _ (execs (_ :: _) c.env) _ _
    have l0 : LocAt c 0 (S "address") := by unfold LocAt; rw [hnm]; rfl
    have l1 : LocAt c 1 (S "prefix") := by unfold LocAt; rw [hnm]; rfl
    refine js_cons (js_ret (je_bin (je_loc O l0 rfl (je_bin (je_int (je_bin (je_int (je_loc O l1 rfl (jb_sub ?_)))))))))
    refine jb_pow2 (by omega) (by omega) ?_
    exact jb_divp (pw_pos p) (by have := pw_le h0; unfold pw at this; omega) hQ

structure NetOk (n p : Int) : Prop where
  n0 : 0 ≤ n
  n1 : n ≤ 4294967295
  p0 : 0 ≤ p
  p1 : p ≤ 32
  net : netI n p = n
theorem netOk {b p : Int} (h0 : 0 ≤ b) (h1 : b ≤ 4294967295) (hp : 0 ≤ p) (hq : p ≤ 32) : NetOk (b / pw p * pw p) p := by
  have hw := pw_pos p
  have h2 := Int.mul_ediv_add_emod b (pw p)
  have h3 := Int.emod_nonneg b (Int.ne_of_gt hw)
  have h4 : 0 ≤ b / pw p := Int.ediv_nonneg h0 (by omega)
  have h5 : b / pw p * pw p = pw p * (b / pw p) := Int.mul_comm _ _
  refine ⟨Int.mul_nonneg h4 (by omega), by rw [h5]; omega, hp, hq, ?_⟩
  unfold netI
  rw [Int.mul_ediv_cancel _ (Int.ne_of_gt hw)]
noncomputable def netOutS : SpecT := fun vs σ Q => ∃ s : Addr, vs = [.ref s] ∧ Src σ s ∧ ∀ t τ n p, σ t = none → t ≠ s → τ t = some (.tup [vi n, vi p]) → NetOk n p → Ext s σ τ → Q (.ref t) τ
theorem Src.ne {σ : AH} {s x : Addr} (h : Src σ s) (hx : σ x = none) : x ≠ s := by
  obtain ⟨a, b, h1, _⟩ := h
  rintro rfl; rw [hx] at h1; cases h1
theorem Ext.none {s x : Addr} {σ τ : AH} (h : Ext s σ τ) (hx : τ x = none) : σ x = none := h.2.2 x hx
theorem v_net (G : GP) : Valid G (.ref 283) 3 netOutS := by
  refine valid_def (n := 2) [S "source"] [S "source", S "base", S "prefix"] [S "_law_one", S "_law_head"] 1 (by k_is) (by k_is) ?_ ?_ rfl rfl rfl ?_ ?_ ?_ ?_ rfl rfl ?_
  · rintro vs σ Q ⟨s, rfl, HS, hQ⟩; rfl
  · intro us hl
    rcases us with _ | ⟨u0, _ | ⟨u1, us⟩⟩ <;> first | (exfalso; simp at hl; done) | rfl
  · decide +kernel
  · decide +kernel
  · decide +kernel
  · decide +kernel
  · rintro c O hnm hgl vs σ Q ⟨s, rfl, HS, hQ⟩
    show JX G c _ _ (execs (_ :: _) c.env) _ _
    have l0 : LocAt c 0 (S "source") := by unfold LocAt; rw [hnm]; rfl
    have l1 : LocAt c 1 (S "base") := by unfold LocAt; rw [hnm]; rfl
    have l2 : LocAt c 2 (S "prefix") := by unfold LocAt; rw [hnm]; rfl
    have g0 : GlAt c (S "_law_one") := by unfold GlAt; rw [hgl]; simp
    have g1 : GlAt c (S "_law_head") := by unfold GlAt; rw [hgl]; simp
    refine js_cons (js_assign O l1 ?_)
    refine je_call O g0 (t_one G) (v_one G) (by decide) ?_
    refine ja_cons (je_loc O l0 rfl (ja_cons (je_list ?_)))
    (repeat (first
    | ((with_reducible show JX _ _ _ _ _ _ _); first | with_reducible refine js_cons ?_ | with_reducible refine js_nil ?_ | with_reducible refine js_ret ?_ | with_reducible refine js_if ?_ | with_reducible refine js_ret0 ?_ | ((with_reducible refine' js_assign O ?hl ?_ ?hs); (case hl => assumption); (case hs => rfl)))
    | ((with_reducible show JE _ _ _ _ (eval _ _) _); first | ((with_reducible refine' je_loc O ?hl ?hv ?_); (case hl => assumption); (case hv => rfl)) | with_reducible refine je_int ?_ | with_reducible refine je_bin ?_ | with_reducible refine je_none ?_ | with_reducible refine je_bool ?_ | ((with_reducible refine je_cmp ?_ ?hm); (case hm => rfl)) | ((with_reducible refine' je_gint O ?hl ?hk ?_); (case hl => assumption); (case hk => k_is)) | with_reducible refine je_sub ?_ | with_reducible refine je_tuple ?_ | with_reducible refine je_list ?_ | with_reducible refine je_and2 ?_ | with_reducible refine je_and3 ?_ | with_reducible refine je_or2 ?_ | with_reducible refine je_if ?_ | with_reducible refine je_usub ?_)
    | ((with_reducible show JB _ _ _ _ _ _ _ _); first | with_reducible refine jb_add ?_ | ((with_reducible refine jb_pow2 ?h1 ?h2 ?_); (case h1 => decide); (case h2 => decide)) | ((with_reducible refine jb_pow10 ?h1 ?h2 ?_); (case h1 => decide); (case h2 => decide)) | ((with_reducible refine jb_mulr ?h1 ?_); (case h1 => decide +kernel)) | with_reducible refine jb_sub ?_)
    | ((with_reducible show JC _ _ _ _ _ _ _ _); first | with_reducible refine jc_eq ?_ | with_reducible refine jc_ne ?_ | with_reducible refine jc_lt ?_ | with_reducible refine jc_le ?_ | with_reducible refine jc_gt ?_ | with_reducible refine jc_ge ?_ | with_reducible refine jc_is_none ?_ | with_reducible refine jc_isnot_none ?_)
    | with_reducible refine asB ?_
    | ((with_reducible show JT _ _ _ _ _ _ _); first | ((with_reducible refine jt_cmp ?_ ?hm); (case hm => rfl)) | with_reducible refine jt_bool ?_ | with_reducible refine jt_not ?_)
    | ((with_reducible show JAl _ _ _ _ _ _ _ _); first | with_reducible refine jal_or ?_ | with_reducible refine jal_and ?_ | with_reducible refine jal_or0 ?_ | with_reducible refine jal_and0 ?_)
    | ((with_reducible show JA _ _ _ _ _ _ _ _); first | ((with_reducible refine ja_cons ?_ ?he); (case he => rfl)) | with_reducible refine ja_nil ?_)))
    refine ⟨by simp, fun d hd => ja_nil ?_⟩
    have hds := HS.ne hd
    refine ⟨s, d, _, rfl, upd_self, by simp, by simp, hds, HS.sub (Sub.upd hd), fun w τ hw hE _ => ?_⟩
    have hE1 : Ext s σ τ := (Ext.of_sub (Sub.upd hd) HS).trans hE
    obtain ⟨b, rfl, hb0, hb1⟩ : ∃ b : Int, w = vi b ∧ 0 ≤ b ∧ b ≤ 4294967295 := by
      simp only [List.mem_cons, List.not_mem_nil, or_false] at hw
      rcases hw with rfl | rfl | rfl | rfl | rfl <;> exact ⟨_, rfl, by decide +kernel, by decide +kernel⟩
    clear hw hE
    refine js_cons (js_assign O l2 ?_)
    refine je_call O g0 (t_one G) (v_one G) (by decide) ?_
    refine ja_cons (je_loc O l0 rfl (ja_cons (je_list ?_)))
    (repeat (first
    | ((with_reducible show JX _ _ _ _ _ _ _); first | with_reducible refine js_cons ?_ | with_reducible refine js_nil ?_ | with_reducible refine js_ret ?_ | with_reducible refine js_if ?_ | with_reducible refine js_ret0 ?_ | ((with_reducible refine' js_assign O ?hl ?_ ?hs); (case hl => assumption); (case hs => rfl)))
    | ((with_reducible show JE _ _ _ _ (eval _ _) _); first | ((with_reducible refine' je_loc O ?hl ?hv ?_); (case hl => assumption); (case hv => rfl)) | with_reducible refine je_int ?_ | with_reducible refine je_bin ?_ | with_reducible refine je_none ?_ | with_reducible refine je_bool ?_ | ((with_reducible refine je_cmp ?_ ?hm); (case hm => rfl)) | ((with_reducible refine' je_gint O ?hl ?hk ?_); (case hl => assumption); (case hk => k_is)) | with_reducible refine je_sub ?_ | with_reducible refine je_tuple ?_ | with_reducible refine je_list ?_ | with_reducible refine je_and2 ?_ | with_reducible refine je_and3 ?_ | with_reducible refine je_or2 ?_ | with_reducible refine je_if ?_ | with_reducible refine je_usub ?_)
    | ((with_reducible show JB _ _ _ _ _ _ _ _); first | with_reducible refine jb_add ?_ | ((with_reducible refine jb_pow2 ?h1 ?h2 ?_); (case h1 => decide); (case h2 => decide)) | ((with_reducible refine jb_pow10 ?h1 ?h2 ?_); (case h1 => decide); (case h2 => decide)) | ((with_reducible refine jb_mulr ?h1 ?_); (case h1 => decide +kernel)) | with_reducible refine jb_sub ?_)
    | ((with_reducible show JC _ _ _ _ _ _ _ _); first | with_reducible refine jc_eq ?_ | with_reducible refine jc_ne ?_ | with_reducible refine jc_lt ?_ | with_reducible refine jc_le ?_ | with_reducible refine jc_gt ?_ | with_reducible refine jc_ge ?_ | with_reducible refine jc_is_none ?_ | with_reducible refine jc_isnot_none ?_)
    | with_reducible refine asB ?_
    | ((with_reducible show JT _ _ _ _ _ _ _); first | ((with_reducible refine jt_cmp ?_ ?hm); (case hm => rfl)) | with_reducible refine jt_bool ?_ | with_reducible refine jt_not ?_)
    | ((with_reducible show JAl _ _ _ _ _ _ _ _); first | with_reducible refine jal_or ?_ | with_reducible refine jal_and ?_ | with_reducible refine jal_or0 ?_ | with_reducible refine jal_and0 ?_)
    | ((with_reducible show JA _ _ _ _ _ _ _ _); first | ((with_reducible refine ja_cons ?_ ?he); (case he => rfl)) | with_reducible refine ja_nil ?_)))
    refine ⟨by simp, fun d2 hd2 => ja_nil ?_⟩
    have hds2 := hE1.2.1.ne hd2
    refine ⟨s, d2, _, rfl, upd_self, by simp, by simp, hds2, hE1.2.1.sub (Sub.upd hd2), fun w τ2 hw hE2 _ => ?_⟩
    have hE3 : Ext s σ τ2 := hE1.trans ((Ext.of_sub (Sub.upd hd2) hE1.2.1).trans hE2)
    obtain ⟨p, rfl, hp0, hp1⟩ : ∃ p : Int, w = vi p ∧ 0 ≤ p ∧ p ≤ 32 := by
      simp only [List.mem_cons, List.not_mem_nil, or_false] at hw
      rcases hw with rfl | rfl | rfl | rfl | rfl | rfl | rfl | rfl | rfl | rfl | rfl | rfl | rfl | rfl | rfl <;> exact ⟨_, rfl, by decide, by decide⟩
    clear hw hE2
    refine js_cons (js_ret (je_tuple (ja_cons (je_bin ?_))))
    refine je_call O g1 (t_head G) (v_head G) (by decide) ?_
    refine ja_cons (je_loc O l1 rfl (ja_cons (je_loc O l2 rfl (ja_nil ?_))))
    refine ⟨b, p, rfl, hp0, hp1, ?_⟩
    refine je_bin (je_int (je_bin (je_int (je_loc O l2 rfl (jb_sub ?_)))))
    refine jb_pow2 (by omega) (by omega) ?_
    have hle := pw_le hp0
    have hpos := pw_pos p
    refine jb_mulr (by show (pw p).natAbs < _; omega) ?_
    refine ja_cons (je_loc O l2 rfl (ja_nil ⟨by simp, fun t ht => ?_⟩))
    exact hQ t _ _ p (hE3.none ht) (hE3.2.1.ne ht) upd_self (netOk hb0 hb1 hp0 hp1) (hE3.trans (Ext.of_sub (Sub.upd ht) hE3.2.1))

structure RowOk (r : Row) : Prop where
  net : NetOk r.n r.p
  g0 : 0 ≤ r.g
  g1 : r.g ≤ 9
theorem RowOk.good {r : Row} (h : RowOk r) : Good r := ⟨h.net.n0, h.net.n1, h.net.p0, h.net.p1, h.g0, by have := h.g1; omega, h.net.net⟩
noncomputable def routeOutS : SpecT := fun vs σ Q => ∃ s : Addr, vs = [.ref s] ∧ Src σ s ∧ ∀ t τ (r : Row), σ t = none → t ≠ s → τ t = some r.tup → RowOk r → Ext s σ τ → Q (.ref t) τ
theorem v_route (G : GP) : Valid G (.ref 290) 4 routeOutS := by
  refine valid_def (n := 3) [S "source"] [S "source", S "net", S "prefix"] [S "_law_net", S "_law_one", S "_law_take"] 1 (by k_is) (by k_is) ?_ ?_ rfl rfl rfl ?_ ?_ ?_ ?_ rfl rfl ?_
  · rintro vs σ Q ⟨s, rfl, HS, hQ⟩; rfl
  · intro us hl
    rcases us with _ | ⟨u0, _ | ⟨u1, us⟩⟩ <;> first | (exfalso; simp at hl; done) | rfl
  · decide +kernel
  · decide +kernel
  · decide +kernel
  · decide +kernel
  · rintro c O hnm hgl vs σ Q ⟨s, rfl, HS, hQ⟩
    show JX G c _ _ (execs (_ :: _) c.env) _ _
    have l0 : LocAt c 0 (S "source") := by unfold LocAt; rw [hnm]; rfl
    have l1 : LocAt c 1 (S "net") := by unfold LocAt; rw [hnm]; rfl
    have l2 : LocAt c 2 (S "prefix") := by unfold LocAt; rw [hnm]; rfl
    have g0 : GlAt c (S "_law_net") := by unfold GlAt; rw [hgl]; simp
    have g1 : GlAt c (S "_law_one") := by unfold GlAt; rw [hgl]; simp
    have g2 : GlAt c (S "_law_take") := by unfold GlAt; rw [hgl]; simp
    refine js_cons (js_assign_tup ?_)
    refine je_call O g0 (t_net G) (v_net G) (by decide) ?_
    refine ja_cons (je_loc O l0 rfl (ja_nil ?_))
    refine ⟨s, rfl, HS, fun t1 τ1 n p ht1 hts1 hv1 hok hE1 => ?_⟩
    refine jas_tup2 hv1 (jas_name O l1 (jas_name O l2 ?_))
    refine js_cons (js_ret (je_tuple ?_))
    refine ja_cons (je_loc O l1 rfl (ja_cons (je_loc O l2 rfl (ja_cons ?_))))
    refine je_call O g1 (t_one G) (v_one G) (by decide) ?_
    refine ja_cons (je_loc O l0 rfl (ja_cons (je_list ?_)))
    (repeat (first
    | ((with_reducible show JX _ _ _ _ _ _ _); first | with_reducible refine js_cons ?_ | with_reducible refine js_nil ?_ | with_reducible refine js_ret ?_ | with_reducible refine js_if ?_ | with_reducible refine js_ret0 ?_ | ((with_reducible refine' js_assign O ?hl ?_ ?hs); (case hl => assumption); (case hs => rfl)))
    | ((with_reducible show JE _ _ _ _ (eval _ _) _); first | ((with_reducible refine' je_loc O ?hl ?hv ?_); (case hl => assumption); (case hv => rfl)) | with_reducible refine je_int ?_ | with_reducible refine je_bin ?_ | with_reducible refine je_none ?_ | with_reducible refine je_bool ?_ | ((with_reducible refine je_cmp ?_ ?hm); (case hm => rfl)) | ((with_reducible refine' je_gint O ?hl ?hk ?_); (case hl => assumption); (case hk => k_is)) | with_reducible refine je_sub ?_ | with_reducible refine je_tuple ?_ | with_reducible refine je_list ?_ | with_reducible refine je_and2 ?_ | with_reducible refine je_and3 ?_ | with_reducible refine je_or2 ?_ | with_reducible refine je_if ?_ | with_reducible refine je_usub ?_)
    | ((with_reducible show JB _ _ _ _ _ _ _ _); first | with_reducible refine jb_add ?_ | ((with_reducible refine jb_pow2 ?h1 ?h2 ?_); (case h1 => decide); (case h2 => decide)) | ((with_reducible refine jb_pow10 ?h1 ?h2 ?_); (case h1 => decide); (case h2 => decide)) | ((with_reducible refine jb_mulr ?h1 ?_); (case h1 => decide +kernel)) | with_reducible refine jb_sub ?_)
    | ((with_reducible show JC _ _ _ _ _ _ _ _); first | with_reducible refine jc_eq ?_ | with_reducible refine jc_ne ?_ | with_reducible refine jc_lt ?_ | with_reducible refine jc_le ?_ | with_reducible refine jc_gt ?_ | with_reducible refine jc_ge ?_ | with_reducible refine jc_is_none ?_ | with_reducible refine jc_isnot_none ?_)
    | with_reducible refine asB ?_
    | ((with_reducible show JT _ _ _ _ _ _ _); first | ((with_reducible refine jt_cmp ?_ ?hm); (case hm => rfl)) | with_reducible refine jt_bool ?_ | with_reducible refine jt_not ?_)
    | ((with_reducible show JAl _ _ _ _ _ _ _ _); first | with_reducible refine jal_or ?_ | with_reducible refine jal_and ?_ | with_reducible refine jal_or0 ?_ | with_reducible refine jal_and0 ?_)
    | ((with_reducible show JA _ _ _ _ _ _ _ _); first | ((with_reducible refine ja_cons ?_ ?he); (case he => rfl)) | with_reducible refine ja_nil ?_)))
    refine ⟨by simp, fun d hd => ja_nil ?_⟩
    refine ⟨s, d, _, rfl, upd_self, by simp, by simp, hE1.2.1.ne hd, hE1.2.1.sub (Sub.upd hd), fun w τ2 hw hE _ => ?_⟩
    have hE2 : Ext s σ τ2 := hE1.trans ((Ext.of_sub (Sub.upd hd) hE1.2.1).trans hE)
    obtain ⟨g, rfl, hg0, hg1⟩ : ∃ g : Int, w = vi g ∧ 0 ≤ g ∧ g ≤ 9 := by
      simp only [List.mem_cons, List.not_mem_nil, or_false] at hw
      rcases hw with rfl | rfl | rfl <;> exact ⟨_, rfl, by decide, by decide⟩
    clear hw hE
    refine ja_cons ?_
    refine je_call O g2 (t_take G) (v_take G) (by decide) ?_
    refine ja_cons (je_loc O l0 rfl (ja_cons (je_int (ja_nil ?_))))
    refine ⟨s, 2, rfl, by decide, by decide, hE2.2.1, fun f τ3 hf0 hf1 hE _ => ?_⟩
    have hE3 : Ext s σ τ3 := hE2.trans hE
    clear hE
    refine ja_cons ?_
    refine je_call O g1 (t_one G) (v_one G) (by decide) ?_
    refine ja_cons (je_loc O l0 rfl (ja_cons (je_list ?_)))
    (repeat (first
    | ((with_reducible show JX _ _ _ _ _ _ _); first | with_reducible refine js_cons ?_ | with_reducible refine js_nil ?_ | with_reducible refine js_ret ?_ | with_reducible refine js_if ?_ | with_reducible refine js_ret0 ?_ | ((with_reducible refine' js_assign O ?hl ?_ ?hs); (case hl => assumption); (case hs => rfl)))
    | ((with_reducible show JE _ _ _ _ (eval _ _) _); first | ((with_reducible refine' je_loc O ?hl ?hv ?_); (case hl => assumption); (case hv => rfl)) | with_reducible refine je_int ?_ | with_reducible refine je_bin ?_ | with_reducible refine je_none ?_ | with_reducible refine je_bool ?_ | ((with_reducible refine je_cmp ?_ ?hm); (case hm => rfl)) | ((with_reducible refine' je_gint O ?hl ?hk ?_); (case hl => assumption); (case hk => k_is)) | with_reducible refine je_sub ?_ | with_reducible refine je_tuple ?_ | with_reducible refine je_list ?_ | with_reducible refine je_and2 ?_ | with_reducible refine je_and3 ?_ | with_reducible refine je_or2 ?_ | with_reducible refine je_if ?_ | with_reducible refine je_usub ?_)
    | ((with_reducible show JB _ _ _ _ _ _ _ _); first | with_reducible refine jb_add ?_ | ((with_reducible refine jb_pow2 ?h1 ?h2 ?_); (case h1 => decide); (case h2 => decide)) | ((with_reducible refine jb_pow10 ?h1 ?h2 ?_); (case h1 => decide); (case h2 => decide)) | ((with_reducible refine jb_mulr ?h1 ?_); (case h1 => decide +kernel)) | with_reducible refine jb_sub ?_)
    | ((with_reducible show JC _ _ _ _ _ _ _ _); first | with_reducible refine jc_eq ?_ | with_reducible refine jc_ne ?_ | with_reducible refine jc_lt ?_ | with_reducible refine jc_le ?_ | with_reducible refine jc_gt ?_ | with_reducible refine jc_ge ?_ | with_reducible refine jc_is_none ?_ | with_reducible refine jc_isnot_none ?_)
    | with_reducible refine asB ?_
    | ((with_reducible show JT _ _ _ _ _ _ _); first | ((with_reducible refine jt_cmp ?_ ?hm); (case hm => rfl)) | with_reducible refine jt_bool ?_ | with_reducible refine jt_not ?_)
    | ((with_reducible show JAl _ _ _ _ _ _ _ _); first | with_reducible refine jal_or ?_ | with_reducible refine jal_and ?_ | with_reducible refine jal_or0 ?_ | with_reducible refine jal_and0 ?_)
    | ((with_reducible show JA _ _ _ _ _ _ _ _); first | ((with_reducible refine ja_cons ?_ ?he); (case he => rfl)) | with_reducible refine ja_nil ?_)))
    refine ⟨by simp, fun d2 hd2 => ja_nil ?_⟩
    refine ⟨s, d2, _, rfl, upd_self, by simp, by simp, hE3.2.1.ne hd2, hE3.2.1.sub (Sub.upd hd2), fun w τ4 hw hE _ => ?_⟩
    have hE4 : Ext s σ τ4 := hE3.trans ((Ext.of_sub (Sub.upd hd2) hE3.2.1).trans hE)
    obtain ⟨m, rfl⟩ : ∃ m : Int, w = vi m := by
      simp only [List.mem_cons, List.not_mem_nil, or_false] at hw
      rcases hw with rfl | rfl | rfl | rfl <;> exact ⟨_, rfl⟩
    refine ja_nil ⟨by simp, fun t ht => ?_⟩
    exact hQ t _ ⟨n, p, g, f, m⟩ (hE4.none ht) (hE4.2.1.ne ht) upd_self ⟨hok, hg0, hg1⟩ (hE4.trans (Ext.of_sub (Sub.upd ht) hE4.2.1))
end Mine
end

section
open PySem PySem.W PyProof.Rows PySem.Spec PySem.Calls
namespace Mine

theorem t_put (G : GP) : TopFn G (S "_law_put") 297 := ⟨by k_is, by k_is⟩
theorem t_found (G : GP) : TopFn G (S "_law_found") 304 := ⟨by k_is, by k_is⟩
noncomputable def WsAt (σ : AH) (ws : List (Addr × Row)) : Prop := ∀ q ∈ ws, σ q.1 = some q.2.tup
abbrev refs (ws : List (Addr × Row)) : List Value := ws.map fun q => .ref q.1
noncomputable def hitW (q r : Addr × Row) : Bool := (r.2.n == q.2.n) && ((r.2.p == q.2.p) && ((r.2.g == q.2.g) && ((r.2.f == q.2.f) && true)))
noncomputable def putW (q : Addr × Row) : List (Addr × Row) → List (Addr × Row)
  | [] => [q]
  | r :: rs => if hitW q r then q :: rs else r :: putW q rs
theorem putW_hit {q : Addr × Row} : ∀ {rs : List (Addr × Row)} {k : Nat} {r : Addr × Row}, rs[k]? = some r → hitW q r = true → (∀ i r', i < k → rs[i]? = some r' → hitW q r' = false) → putW q rs = rs.take k ++ [q] ++ rs.drop (k + 1)
  | [], k, r, h, _, _ => by simp at h
  | x :: rs, 0, r, h, h1, _ => by
    simp only [List.getElem?_cons_zero, Option.some.injEq] at h
    subst h; unfold putW; rw [if_pos h1]; rfl
  | x :: rs, k + 1, r, h, h1, h2 => by
    have hx : ¬ hitW q x = true := by rw [h2 0 x (by omega) rfl]; simp
    unfold putW; rw [if_neg hx]
    rw [putW_hit (rs := rs) (k := k) h h1 fun i r' hi e => h2 (i + 1) r' (by omega) e]; rfl
theorem putW_none {q : Addr × Row} : ∀ {rs : List (Addr × Row)}, (∀ r ∈ rs, hitW q r = false) → putW q rs = rs ++ [q]
  | [], _ => rfl
  | x :: rs, h => by
    have hx : ¬ hitW q x = true := by rw [h x (.head _)]; simp
    unfold putW; rw [if_neg hx, putW_none fun r hr => h r (.tail _ hr)]; rfl
theorem refs_get {ws : List (Addr × Row)} {k : Nat} {q : Addr × Row} (h : ws[k]? = some q) : (refs ws)[k]? = some (.ref q.1) := by
  rw [List.getElem?_map, h]; rfl
noncomputable def putS : SpecT := fun vs σ Q => ∃ (rl x : Addr) (ws : List (Addr × Row)) (r : Row), vs = [.ref rl, .ref x] ∧ σ rl = some (.list (refs ws)) ∧ WsAt σ ws ∧ σ x = some r.tup ∧ ws.length ≤ 100 ∧ ∀ d τ, σ d = none → Sub σ τ → τ d = some (.list (refs (putW (x, r) ws))) → Q (.ref d) τ
theorem sub_none {σ τ : AH} (h : Sub σ τ) {d : Addr} (e : τ d = none) : σ d = none := by
  cases e2 : σ d with
  | none => rfl
  | some o => exact absurd ((h _ _ e2).symm.trans e) (by simp)
theorem Sub.trans {a b c : AH} (h : Sub a b) (k : Sub b c) : Sub a c := fun x o e => k x o (h x o e)
theorem v_put (G : GP) : Valid G (.ref 297) 1 putS := by
  refine valid_def (n := 0) [S "rows", S "row"] [S "rows", S "row", S "at"] [S "range", S "len"] 2 (by k_is) (by k_is) ?_ ?_ rfl rfl rfl ?_ ?_ ?_ ?_ rfl rfl ?_
  · rintro vs σ Q ⟨rl, x, ws, r, rfl, hl, hw, hx, hz, hQ⟩; rfl
  · intro us hl
    rcases us with _ | ⟨u0, _ | ⟨u1, _ | ⟨u2, us⟩⟩⟩ <;> first | (exfalso; simp at hl; done) | rfl
  · decide +kernel
  · decide +kernel
  · decide +kernel
  · decide +kernel
  · rintro c O hnm hgl vs σ Q ⟨rl, x, ws, r, rfl, hl, hw, hx, hz, hQ⟩
    show JX G c _ _ (execs (_ :: _) c.env) _ _
    have l0 : LocAt c 0 (S "rows") := by unfold LocAt; rw [hnm]; rfl
    have l1 : LocAt c 1 (S "row") := by unfold LocAt; rw [hnm]; rfl
    have l2 : LocAt c 2 (S "at") := by unfold LocAt; rw [hnm]; rfl
    have g0 : GlAt c (S "range") := by unfold GlAt; rw [hgl]; simp
    have g1 : GlAt c (S "len") := by unfold GlAt; rw [hgl]; simp
    refine js_cons ?_
    refine js_for_range O g0 (b_range G) ?_ (fun _ _ _ _ _ hq => go_name hq)
    refine je_len O g1 (b_len G) (je_loc O l0 rfl ⟨rl, _, rfl, hl, by rw [List.length_map]; omega, ?_⟩)
    rw [List.length_map]
    refine ⟨(ws.length : Int), fun i ρ τ => Sub σ τ ∧ ρ[0]? = some (some (.ref rl)) ∧ ρ[1]? = some (some (.ref x)) ∧ 3 ≤ ρ.length ∧ (∀ i' r', i' < i → ws[i']? = some r' → hitW (x, r) r' = false), rfl, by omega, by omega, ⟨fun _ _ h => h, rfl, rfl, by simp, fun i' r' h => absurd h (Nat.not_lt_zero _)⟩, ?_, ?_⟩
    · rintro k ρ τ ⟨hs, e0, e1, e3, hno⟩ hk
      obtain ⟨q, hq⟩ : ∃ q, ws[k]? = some q := ⟨_, List.getElem?_eq_getElem (by omega)⟩
      have hqm : q ∈ ws := List.mem_of_getElem? hq
      refine jas_name O l2 ?_
      have f0 : (ρ.set 2 (some (vi k)))[0]? = some (some (.ref rl)) := by rw [List.getElem?_set_ne (by decide)]; exact e0
      have f1 : (ρ.set 2 (some (vi k)))[1]? = some (some (.ref x)) := by rw [List.getElem?_set_ne (by decide)]; exact e1
      have f2 : (ρ.set 2 (some (vi k)))[2]? = some (some (vi k)) := by rw [List.getElem?_set_self (by omega)]
      have f3 : 3 ≤ (ρ.set 2 (some (vi k))).length := by rw [List.length_set]; exact e3
      generalize ρ.set 2 (some (vi k)) = ρ1 at f0 f1 f2 f3 ⊢
      have hlτ := hs _ _ hl
      refine js_cons (js_if (jt_cmp (je_slice (je_sub (je_loc O l0 f0 (je_loc O l2 f2 ?_))))))
      refine js2_list hlτ (by omega) (by omega) (refs_get hq) ?_
      refine jp_none (jp_some (je_int ?_))
      have hqτ := hs _ _ (hw q hqm)
      refine jsl_tup (k := 4) hqτ (by simp [Row.is]) (by simp [Row.is]) fun d1 hd1 => ?_
      have hs1 := Sub.trans hs (Sub.upd (o := .tup ((q.2.is.map vi).take 4)) hd1)
      refine je_slice (je_loc O l1 f1 (jp_none (jp_some (je_int ?_))))
      refine jsl_tup (k := 4) (hs1 _ _ hx) (by simp [Row.is]) (by simp [Row.is]) fun d2 hd2 => ?_
      have hs2 := Sub.trans hs1 (Sub.upd (o := .tup ((r.is.map vi).take 4)) hd2)
      refine jc_eqD O (.tup (is := [q.2.n, q.2.p, q.2.g, q.2.f]) (Sub.upd hd2 _ _ upd_self)) (.tup (is := [r.n, r.p, r.g, r.f]) upd_self) rfl rfl ?_
      show ∃ q', Value.bool (hitW (x, r) q) = .bool q' ∧ _
      refine asB ⟨fun hb => ?_, fun hb => js_nil (js_nil ⟨hs2, f0, f1, f3, fun i' r' hi h => ?_⟩)⟩
      rotate_left
      · by_cases e : i' = k
        · subst e; rw [hq] at h; cases h; exact hb
        · exact hno i' r' (by omega) h
      have hl2 := hs2 _ _ hl
      generalize upd (upd τ d1 (.tup ((q.2.is.map vi).take 4))) d2 (.tup ((r.is.map vi).take 4)) = τ2 at hs2 hl2 ⊢
      refine js_cons (js_ret (je_bin (je_bin ?_)))
      refine je_slice (je_loc O l0 f0 (jp_none (jp_some (je_loc O l2 f2 ?_))))
      refine jsl_upto hl2 (by rw [List.length_map]; omega) fun a1 ha1 => ?_
      have hs3 := Sub.trans hs2 (Sub.upd (o := .list ((refs ws).take k)) ha1)
      refine je_list (ja_cons (je_loc O l1 f1 (ja_nil ⟨by simp, fun a2 ha2 => ?_⟩)))
      have hs4 := Sub.trans hs3 (Sub.upd (o := .list [.ref x]) ha2)
      refine jb_addl (Sub.upd ha2 _ _ upd_self) upd_self (by rw [List.length_take, List.length_map]; simp; omega) fun a3 ha3 => ?_
      have hs5 := Sub.trans hs4 (Sub.upd (o := .list ((refs ws).take k ++ [.ref x])) ha3)
      refine je_slice (je_loc O l0 f0 (jp_some (je_bin (je_loc O l2 f2 (je_int (jb_add ?_))))))
      rw [show ((k : Int) + 1) = ((k + 1 : Nat) : Int) by omega]
      refine jp_none ?_
      refine jsl_from (hs5 _ _ hl) (by rw [List.length_map]; omega) fun a4 ha4 => ?_
      have hs6 := Sub.trans hs5 (Sub.upd (o := .list ((refs ws).drop (k + 1))) ha4)
      refine jb_addl (Sub.upd ha4 _ _ upd_self) upd_self (by rw [List.length_append, List.length_take, List.length_drop, List.length_map]; simp; omega) fun a5 ha5 => ?_
      have hs7 := Sub.trans hs6 (Sub.upd (o := .list ((refs ws).take k ++ [.ref x] ++ (refs ws).drop (k + 1))) ha5)
      refine hQ a5 _ (sub_none hs6 ha5) hs7 ?_
      rw [upd_self, putW_hit hq hb hno]
      unfold refs
      rw [List.map_append, List.map_append, List.map_take, List.map_drop]; rfl
    · rintro ρ τ ⟨hs, e0, e1, e3, hno⟩
      rw [show ((ws.length : Int)).toNat = ws.length by omega] at hno
      refine js_cons (js_ret (je_bin (je_loc O l0 e0 ?_)))
      refine je_list (ja_cons (je_loc O l1 e1 (ja_nil ⟨by simp, fun a2 ha2 => ?_⟩)))
      have hs4 := Sub.trans hs (Sub.upd (o := .list [.ref x]) ha2)
      refine jb_addl (hs4 _ _ hl) upd_self (by rw [List.length_map]; simp; omega) fun a3 ha3 => ?_
      refine hQ a3 _ (sub_none hs4 ha3) (Sub.trans hs4 (Sub.upd ha3)) ?_
      rw [upd_self, putW_none fun q hq => by
        obtain ⟨i, hi, e⟩ := List.getElem_of_mem hq
        exact hno i q hi (by rw [List.getElem?_eq_getElem hi, e])]
      unfold refs
      rw [List.map_append]; rfl

noncomputable def stepF (a : Int) (b : Option (Addr × Row)) (q : Addr × Row) : Option (Addr × Row) :=
  if q.2.n / pw q.2.p = a / pw q.2.p then (match b with
    | none => some q
    | some r => if r.2.p < q.2.p ∨ (q.2.p = r.2.p ∧ q.2.m < r.2.m) then some q else some r) else b
noncomputable def foundW (a : Int) (ws : List (Addr × Row)) : Option (Addr × Row) := ws.foldl (stepF a) none
noncomputable def foundS : SpecT := fun vs σ Q => ∃ (rl : Addr) (a : Int) (ws : List (Addr × Row)), vs = [.ref rl, vi a] ∧ σ rl = some (.list (refs ws)) ∧ WsAt σ ws ∧ (∀ q ∈ ws, 0 ≤ q.2.p ∧ q.2.p ≤ 32) ∧ ws.length ≤ 100 ∧ Q (optV (foundW a ws)) σ
theorem stepF_mem {a : Int} {rs : List (Addr × Row)} {b : Option (Addr × Row)} {q : Addr × Row} (h : rs.foldl (stepF a) b = some q) : q ∈ rs ∨ b = some q := by
  induction rs generalizing b with
  | nil => exact .inr h
  | cons r rs ih =>
    rcases ih h with h1 | h1
    · exact .inl (.tail _ h1)
    · unfold stepF at h1
      split at h1
      · cases b with
        | none => simp only [Option.some.injEq] at h1; subst h1; exact .inl (.head _)
        | some b =>
          dsimp only at h1
          split at h1
          · simp only [Option.some.injEq] at h1; subst h1; exact .inl (.head _)
          · exact .inr h1
      · exact .inr h1
theorem v_found (G : GP) : Valid G (.ref 304) 2 foundS := by
  refine valid_def (n := 1) [S "rows", S "address"] [S "rows", S "address", S "best", S "row"] [S "_law_head"] 2 (by k_is) (by k_is) ?_ ?_ rfl rfl rfl ?_ ?_ ?_ ?_ rfl rfl ?_
  · rintro vs σ Q ⟨rl, a, ws, rfl, hl, hw, hp, hz, hQ⟩; rfl
  · intro us hl
    rcases us with _ | ⟨u0, _ | ⟨u1, _ | ⟨u2, us⟩⟩⟩ <;> first | (exfalso; simp at hl; done) | rfl
  · decide +kernel
  · decide +kernel
  · decide +kernel
  · decide +kernel
  · rintro c O hnm hgl vs σ Q ⟨rl, a, ws, rfl, hl, hw, hp, hz, hQ⟩
    show JX G c _ _ (execs (_ :: _) c.env) _ _
    have l0 : LocAt c 0 (S "rows") := by unfold LocAt; rw [hnm]; rfl
    have l1 : LocAt c 1 (S "address") := by unfold LocAt; rw [hnm]; rfl
    have l2 : LocAt c 2 (S "best") := by unfold LocAt; rw [hnm]; rfl
    have l3 : LocAt c 3 (S "row") := by unfold LocAt; rw [hnm]; rfl
    have g0 : GlAt c (S "_law_head") := by unfold GlAt; rw [hgl]; simp
    refine js_cons (js_assign O l2 (je_none ?_))
    refine js_cons ?_
    refine js_for_list ?_ (fun _ _ _ _ _ _ _ _ hq => go_name hq)
    refine je_loc O l0 rfl ⟨rl, _, fun k ρ τ => τ = σ ∧ ρ[1]? = some (some (vi a)) ∧ ρ[2]? = some (some (optV (foundW a (ws.take k)))) ∧ 4 ≤ ρ.length, rfl, hl, ⟨rfl, rfl, rfl, Nat.le_refl _⟩, ?_, ?_, ?_⟩
    · rintro k ρ τ ⟨rfl, _⟩; exact hl
    · rintro k ρ τ w ⟨rfl, e1, e2, e4⟩ hwk
      rw [List.getElem?_map] at hwk
      cases hq : ws[k]? with
      | none => rw [hq] at hwk; cases hwk
      | some q =>
      rw [hq] at hwk
      cases hwk
      have hqm : q ∈ ws := List.mem_of_getElem? hq
      have eb : foundW a (ws.take (k + 1)) = stepF a (foundW a (ws.take k)) q := foldl_take (stepF a) none ws hq
      obtain ⟨hp0, hp1⟩ := hp q hqm
      have hqt : τ q.1 = some (.tup [vi q.2.n, vi q.2.p, vi q.2.g, vi q.2.f, vi q.2.m]) := hw q hqm
      refine jas_name O l3 ?_
      have f1 : (ρ.set 3 (some (.ref q.1)))[1]? = some (some (vi a)) := by rw [List.getElem?_set_ne (by decide)]; exact e1
      have f2 : (ρ.set 3 (some (.ref q.1)))[2]? = some (some (optV (foundW a (ws.take k)))) := by rw [List.getElem?_set_ne (by decide)]; exact e2
      have f3 : (ρ.set 3 (some (.ref q.1)))[3]? = some (some (.ref q.1)) := by rw [List.getElem?_set_self (by omega)]
      have f4 : 4 ≤ (ρ.set 3 (some (.ref q.1))).length := by rw [List.length_set]; exact e4
      generalize ρ.set 3 (some (.ref q.1)) = ρ1 at f1 f2 f3 f4 ⊢
      have stay : stepF a (foundW a (ws.take k)) q = foundW a (ws.take k) → (τ = τ ∧ ρ1[1]? = some (some (vi a)) ∧ ρ1[2]? = some (some (optV (foundW a (ws.take (k + 1))))) ∧ 4 ≤ ρ1.length) := fun h => ⟨rfl, f1, by rw [eb, h]; exact f2, f4⟩
      refine js_cons (js_if (jt_cmp ?_))
      refine je_call O g0 (t_head G) (v_head G) (by decide) ?_
      refine ja_cons (je_sub (je_loc O l3 f3 (je_int ?_)))
      refine js2_tup hqt (by decide) (by decide) (v := vi q.2.n) rfl ?_
      refine ja_cons (je_sub (je_loc O l3 f3 (je_int ?_)))
      refine js2_tup hqt (by decide) (by decide) (v := vi q.2.p) rfl (ja_nil ?_)
      refine ⟨_, _, rfl, hp0, hp1, ?_⟩
      refine je_call O g0 (t_head G) (v_head G) (by decide) ?_
      refine ja_cons (je_loc O l1 f1 (ja_cons (je_sub (je_loc O l3 f3 (je_int ?_)))))
      refine js2_tup hqt (by decide) (by decide) (v := vi q.2.p) rfl (ja_nil ?_)
      refine ⟨_, _, rfl, hp0, hp1, ?_⟩
      refine jc_eq (asB ⟨fun hb => ?_, fun hb => js_nil (js_nil (stay ?_))⟩)
      rotate_left
      · have : ¬ q.2.n / pw q.2.p = a / pw q.2.p := by simpa using hb
        unfold stepF; rw [if_neg this]
      have hhit : q.2.n / pw q.2.p = a / pw q.2.p := by simpa using hb
      refine js_seq (fun ρ τ' => τ' = τ ∧ ρ[1]? = some (some (vi a)) ∧ ρ[2]? = some (some (optV (foundW a (ws.take (k + 1))))) ∧ 4 ≤ ρ.length) ?_ (fun ρ' τ' h => js_nil (js_nil h))
      have take : stepF a (foundW a (ws.take k)) q = some q → ∀ {pa pb pc : Pos}, JX G c ρ1 τ (execs [Stmt.Assign [Expr.Name (S "best") pa] (Expr.Name (S "row") pb) pc] c.env) (fun ρ τ' => τ' = τ ∧ ρ[1]? = some (some (vi a)) ∧ ρ[2]? = some (some (optV (foundW a (ws.take (k + 1))))) ∧ 4 ≤ ρ.length) Q := fun h => by
        intro pa pb pc
        refine js_cons (js_assign O l2 (je_loc O l3 f3 ?_))
        refine js_nil ⟨rfl, ?_, ?_, ?_⟩
        · rw [List.getElem?_set_ne (by decide)]; exact f1
        · rw [List.getElem?_set_self (by omega), eb, h]; rfl
        · rw [List.length_set]; exact f4
      refine js_if (jt_bool (jal_or (jt_cmp (je_loc O l2 f2 (je_none (jc_is_none (asB ?_)))))))
      rw [optV_none]
      refine ⟨fun hc => ⟨fun _ => take ?_, fun h => (by cases h)⟩, fun hc => ?_⟩
      · rw [Option.isNone_iff_eq_none.mp hc]; unfold stepF; rw [if_pos hhit]
      obtain ⟨r, hr⟩ : ∃ r, foundW a (ws.take k) = some r := by cases h : foundW a (ws.take k) with | none => rw [h] at hc; cases hc | some r => exact ⟨r, rfl⟩
      have hrm : r ∈ ws := by
        rcases stepF_mem hr with h | h
        · exact List.mem_of_mem_take h
        · cases h
      have hrt : τ r.1 = some (.tup [vi r.2.n, vi r.2.p, vi r.2.g, vi r.2.f, vi r.2.m]) := hw r hrm
      rw [hr] at f2 take stay
      have est : stepF a (some r) q = if r.2.p < q.2.p ∨ (q.2.p = r.2.p ∧ q.2.m < r.2.m) then some q else some r := by unfold stepF; rw [if_pos hhit]
      rw [est] at take stay
      refine jal_or (jt_cmp (je_sub (je_loc O l3 f3 (je_int ?_))))
      refine js2_tup hqt (by decide) (by decide) (v := vi q.2.p) rfl ?_
      refine je_sub (je_loc O l2 f2 (je_int ?_))
      refine js2_tup hrt (by decide) (by decide) (v := vi r.2.p) rfl ?_
      refine jc_gt (asB ⟨fun hd => ⟨fun _ => take ?_, fun h => (by cases h)⟩, fun hd => ?_⟩)
      · rw [if_pos (.inl (by simpa using hd))]
      have hnlt : ¬ r.2.p < q.2.p := by simpa using hd
      refine jal_or (jt_bool (jal_and (jt_cmp (je_sub (je_loc O l3 f3 (je_int ?_))))))
      refine js2_tup hqt (by decide) (by decide) (v := vi q.2.p) rfl ?_
      refine je_sub (je_loc O l2 f2 (je_int ?_))
      refine js2_tup hrt (by decide) (by decide) (v := vi r.2.p) rfl ?_
      refine jc_eq (asB ⟨fun he => ?_, fun he => ⟨fun h => (by cases h), fun _ => jal_or0 ⟨fun h => (by cases h), fun _ => js_nil (stay ?_)⟩⟩⟩)
      rotate_left
      · have : ¬ q.2.p = r.2.p := by simpa using he
        rw [if_neg]; rintro (h | ⟨h, _⟩)
        · exact hnlt h
        · exact this h
      have heq : q.2.p = r.2.p := by simpa using he
      refine jal_and (jt_cmp (je_sub (je_loc O l3 f3 (je_int ?_))))
      refine js2_tup hqt (by decide) (by decide) (v := vi q.2.m) rfl ?_
      refine je_sub (je_loc O l2 f2 (je_int ?_))
      refine js2_tup hrt (by decide) (by decide) (v := vi r.2.m) rfl ?_
      refine jc_lt (asB ⟨fun hg => jal_and0 ⟨fun _ => ⟨fun _ => take ?_, fun h => (by cases h)⟩, fun h => (by cases h)⟩, fun hg => ⟨fun h => (by cases h), fun _ => jal_or0 ⟨fun h => (by cases h), fun _ => js_nil (stay ?_)⟩⟩⟩)
      · rw [if_pos (.inr ⟨heq, by simpa using hg⟩)]
      · have : ¬ q.2.m < r.2.m := by simpa using hg
        rw [if_neg]; rintro (h | ⟨_, h⟩)
        · exact hnlt h
        · exact this h
    · rintro ρ τ ⟨rfl, e1, e2, e4⟩
      refine js_cons (js_ret (je_loc O l2 e2 ?_))
      rw [List.length_map, List.take_length]
      exact hQ
end Mine
end

section
open PySem PySem.W PyProof.Rows PySem.Spec PySem.Calls
namespace Mine

theorem t_addresses (G : GP) : TopFn G (S "_law_addresses") 311 := ⟨by k_is, by k_is⟩
theorem t_bits_right (G : GP) : TopFn G (S "_law_bits_right") 335 := ⟨by k_is, by k_is⟩
theorem t_pool (G : GP) : TopFn G (S "_law_pool") 255 := ⟨by k_is, by k_is⟩
theorem b_int (G : GP) : TopB G (S "int") (.type "int") := ⟨by k_is, by decide +kernel, by decide⟩
theorem b_max (G : GP) : TopB G (S "max") (.builtin "max") := ⟨by k_is, by decide +kernel, by decide⟩
structure RowsOk (σ : AH) (s rl : Addr) (ws : List (Addr × Row)) : Prop where
  at_ : σ rl = some (.list (refs ws))
  tups : WsAt σ ws
  ok : ∀ q ∈ ws, RowOk q.2
  len : ws.length ≤ 100
  ne : rl ≠ s
theorem RowsOk.ext {σ τ : AH} {s rl : Addr} {ws : List (Addr × Row)} (h : RowsOk σ s rl ws) (hs : Src σ s) (k : Ext s σ τ) : RowsOk τ s rl ws :=
  ⟨k.1 _ _ h.ne h.at_, fun q hq => k.1 _ _ (fun e => by
    obtain ⟨a, b, h1, _⟩ := hs
    have := h.tups q hq
    rw [e, h1] at this; cases this) (h.tups q hq), h.ok, h.len, h.ne⟩
noncomputable def addressesS : SpecT := fun vs σ Q => ∃ (s rl : Addr) (ws : List (Addr × Row)), vs = [.ref s, .ref rl] ∧ Src σ s ∧ RowsOk σ s rl ws ∧ ∀ d τ (as : List Int), σ d = none → d ≠ s → τ d = some (.list (as.map vi)) → as.length = 5 → (∀ a ∈ as, 0 ≤ a ∧ a ≤ 4294967295) → Ext s σ τ → Q (.ref d) τ
structure AInv (σ : AH) (s rl d : Addr) (k : Nat) (ρ : LE) (τ : AH) (as : List Int) : Prop where
  e0 : ρ[0]? = some (some (.ref s))
  e1 : ρ[1]? = some (some (.ref rl))
  e2 : ρ[2]? = some (some (.ref d))
  e7 : 7 ≤ ρ.length
  dn : σ d = none
  ds : d ≠ s
  dl : τ d = some (.list (as.map vi))
  len : as.length = k
  ok : ∀ a ∈ as, 0 ≤ a ∧ a ≤ 4294967295
  ext : Ext s σ τ
theorem AInv.step {σ τ υ : AH} {s rl d : Addr} {k : Nat} {ρ : LE} {as : List Int} (I : AInv σ s rl d k ρ τ as) (E : Ext s τ υ) : AInv σ s rl d k ρ υ as :=
  ⟨I.e0, I.e1, I.e2, I.e7, I.dn, I.ds, E.1 _ _ I.ds I.dl, I.len, I.ok, I.ext.trans E⟩
theorem AInv.set {σ τ : AH} {s rl d : Addr} {k i : Nat} {ρ : LE} {v : Option Value} {as : List Int} (I : AInv σ s rl d k ρ τ as) (hi : 3 ≤ i) : AInv σ s rl d k (ρ.set i v) τ as :=
  ⟨by rw [List.getElem?_set_ne (by omega)]; exact I.e0, by rw [List.getElem?_set_ne (by omega)]; exact I.e1, by rw [List.getElem?_set_ne (by omega)]; exact I.e2, by rw [List.length_set]; exact I.e7, I.dn, I.ds, I.dl, I.len, I.ok, I.ext⟩
theorem v_addresses (G : GP) : Valid G (.ref 311) 4 addressesS := by
  refine valid_def (n := 3) [S "source", S "rows"] [S "source", S "rows", S "found", S "turn", S "net", S "prefix", S "size"] [S "range", S "_law_net", S "_law_take", S "_law_one"] 2 (by k_is) (by k_is) ?_ ?_ rfl rfl rfl ?_ ?_ ?_ ?_ rfl rfl ?_
  · rintro vs σ Q ⟨s, rl, ws, rfl, HS, HR, hQ⟩; rfl
  · intro us hl
    rcases us with _ | ⟨u0, _ | ⟨u1, _ | ⟨u2, us⟩⟩⟩ <;> first | (exfalso; simp at hl; done) | rfl
  · decide +kernel
  · decide +kernel
  · decide +kernel
  · decide +kernel
  · rintro c O hnm hgl vs σ Q ⟨s, rl, ws, rfl, HS, HR, hQ⟩
    show JX G c _ _ (execs (_ :: _) c.env) _ _
    have l0 : LocAt c 0 (S "source") := by unfold LocAt; rw [hnm]; rfl
    have l1 : LocAt c 1 (S "rows") := by unfold LocAt; rw [hnm]; rfl
    have l2 : LocAt c 2 (S "found") := by unfold LocAt; rw [hnm]; rfl
    have l3 : LocAt c 3 (S "turn") := by unfold LocAt; rw [hnm]; rfl
    have l4 : LocAt c 4 (S "net") := by unfold LocAt; rw [hnm]; rfl
    have l5 : LocAt c 5 (S "prefix") := by unfold LocAt; rw [hnm]; rfl
    have l6 : LocAt c 6 (S "size") := by unfold LocAt; rw [hnm]; rfl
    have g0 : GlAt c (S "range") := by unfold GlAt; rw [hgl]; simp
    have g1 : GlAt c (S "_law_net") := by unfold GlAt; rw [hgl]; simp
    have g2 : GlAt c (S "_law_take") := by unfold GlAt; rw [hgl]; simp
    have g3 : GlAt c (S "_law_one") := by unfold GlAt; rw [hgl]; simp
    refine js_cons (js_assign O l2 (je_list (ja_nil ⟨by decide, fun d hd => ?_⟩)))
    refine js_cons ?_
    refine js_for_range O g0 (b_range G) ?_ (fun _ _ _ _ _ hq => go_name hq)
    refine je_int ⟨5, fun i ρ τ => ∃ as, AInv σ s rl d i ρ τ as, rfl, by decide, by decide, ⟨[], rfl, rfl, rfl, by simp, hd, HS.ne hd, upd_self, rfl, fun a h => (nomatch h), Ext.of_sub (Sub.upd hd) HS⟩, ?_, ?_⟩
    · rintro k ρ τ ⟨as, I⟩ hk
      refine jas_name O l3 ?_
      have I1 := I.set (i := 3) (v := some (vi k)) (by decide)
      generalize ρ.set 3 (some (vi k)) = ρ1 at I1 ⊢
      clear I
      refine js_cons (js_assign_tup ?_)
      refine je_call O g1 (t_net G) (v_net G) (by decide) ?_
      refine ja_cons (je_loc O l0 I1.e0 (ja_nil ?_))
      refine ⟨s, rfl, I1.ext.2.1, fun t τ1 n p ht hts hv hok hE => ?_⟩
      refine jas_tup2 hv (jas_name O l4 (jas_name O l5 ?_))
      have I2 := ((I1.step hE).set (i := 4) (v := some (vi n)) (by decide)).set (i := 5) (v := some (vi p)) (by decide)
      have f4 : ((ρ1.set 4 (some (vi n))).set 5 (some (vi p)))[4]? = some (some (vi n)) := by rw [List.getElem?_set_ne (by decide), List.getElem?_set_self (by have := I1.e7; omega)]
      have f5 : ((ρ1.set 4 (some (vi n))).set 5 (some (vi p)))[5]? = some (some (vi p)) := by rw [List.getElem?_set_self (by rw [List.length_set]; have := I1.e7; omega)]
      generalize (ρ1.set 4 (some (vi n))).set 5 (some (vi p)) = ρ2 at I2 f4 f5 ⊢
      clear I1 hE hts ht hv
      refine js_seq (fun ρ τ => ∃ n p, AInv σ s rl d k ρ τ as ∧ ρ[4]? = some (some (vi n)) ∧ ρ[5]? = some (some (vi p)) ∧ NetOk n p) ?_ ?_
      · refine js_if (jt_bool (jal_and (jt_cmp (je_loc O l1 I2.e1 (je_list (ja_nil ⟨by decide, fun g hg => ?_⟩))))))
        have HR2 := HR.ext HS I2.ext
        refine jc_ne_nil O (Sub.upd hg _ _ HR2.at_) upd_self ?_
        have I3 := I2.step (Ext.of_sub (Sub.upd (o := .list []) hg) I2.ext.2.1)
        generalize upd τ1 g (.list []) = τ2 at I3 ⊢
        refine asB ⟨fun hb => ?_, fun hb => ⟨fun h => (by cases h), fun _ => js_nil ⟨n, p, I3, f4, f5, hok⟩⟩⟩
        have hne : ws ≠ [] := by rintro rfl; cases hb
        refine jal_and (jt_cmp ?_)
        refine je_call O g2 (t_take G) (v_take G) (by decide) ?_
        refine ja_cons (je_loc O l0 I3.e0 (ja_cons (je_int (ja_nil ?_))))
        refine ⟨s, 2, rfl, by decide, by decide, I3.ext.2.1, fun r τ3 _ _ hE _ => ?_⟩
        have I4 := I3.step hE
        refine je_int (jc_eq (asB ⟨fun hc => jal_and0 ⟨fun _ => ?_, fun h => (by cases h)⟩, fun hc => ⟨fun h => (by cases h), fun _ => js_nil ⟨n, p, I4, f4, f5, hok⟩⟩⟩))
        refine js_cons (js_assign_tup (je_slice ?_))
        refine je_call O g3 (t_one G) (v_one G) (by decide) ?_
        refine ja_cons (je_loc O l0 I4.e0 (ja_cons (je_loc O l1 I4.e1 (ja_nil ?_))))
        have HR4 := HR.ext HS I4.ext
        refine ⟨s, rl, _, rfl, HR4.at_, by simpa [refs] using hne, by unfold refs; rw [List.length_map]; have := HR.len; omega, HR.ne, I4.ext.2.1, fun w τ4 hw hE4 _ => ?_⟩
        obtain ⟨q, hq, rfl⟩ := List.mem_map.mp hw
        have I5 := I4.step hE4
        have HR5 := HR.ext HS I5.ext
        refine jp_none (jp_some (je_int ?_))
        refine jsl_tup (k := 2) (HR5.tups q hq) (by simp [Row.is]) (by simp [Row.is]) fun t2 ht2 => ?_
        have I6 := I5.step (Ext.of_sub (Sub.upd (o := .tup ((q.2.is.map vi).take 2)) ht2) I5.ext.2.1)
        refine jas_tup2 (v1 := vi q.2.n) (v2 := vi q.2.p) upd_self (jas_name O l4 (jas_name O l5 ?_))
        refine js_nil ⟨q.2.n, q.2.p, (I6.set (by decide)).set (by decide), ?_, ?_, (HR.ok q hq).net⟩
        · rw [List.getElem?_set_ne (by decide), List.getElem?_set_self (by have := I6.e7; omega)]
        · rw [List.getElem?_set_self (by rw [List.length_set]; have := I6.e7; omega)]
      · clear f4 f5 I2 hok
        rintro ρ3 τ3 ⟨n, p, I3, f4, f5, hok⟩
        have hpos := pw_pos p
        have hple := pw_le hok.p0
        have hp0 := hok.p0
        have hp1 := hok.p1
        refine js_cons (js_assign O l6 (je_bin (je_int (je_bin (je_int (je_loc O l5 f5 (jb_sub ?_)))))))
        refine jb_pow2 (by omega) (by omega) ?_
        show JX G c (ρ3.set 6 (some (vi (pw p)))) _ _ _ _
        have I4 := I3.set (i := 6) (v := some (vi (pw p))) (by decide)
        have p4 : (ρ3.set 6 (some (vi (pw p))))[4]? = some (some (vi n)) := by rw [List.getElem?_set_ne (by decide)]; exact f4
        have p6 : (ρ3.set 6 (some (vi (pw p))))[6]? = some (some (vi (pw p))) := by rw [List.getElem?_set_self (by have := I3.e7; omega)]
        generalize ρ3.set 6 (some (vi (pw p))) = ρ4 at I4 p4 p6 ⊢
        refine js_cons (js_expr ?_ (inter O))
        refine je_append (je_loc O l2 I4.e2 ⟨d, _, rfl, I4.dl, ?_⟩)
        refine je_bin (je_bin (je_loc O l4 p4 ?_))
        refine je_call O g3 (t_one G) (v_one G) (by decide) ?_
        refine ja_cons (je_loc O l0 I4.e0 (ja_cons (je_list ?_)))
        refine ja_cons (je_int (ja_cons (je_int ?_)))
        refine ja_cons (je_bin (je_loc O l6 p6 (je_int (jb_sub ?_))))
        refine ja_cons (je_loc O l6 p6 ?_)
        refine ja_cons (je_bin (je_loc O l6 p6 (je_int (jb_divp (by decide) (by decide) ?_))))
        refine ja_cons (je_usub (je_int ⟨1, rfl, ?_⟩))
        refine ja_nil ⟨by simp, fun l' hl' => ja_nil ?_⟩
        have I5 := I4.step (Ext.of_sub (Sub.upd (o := .list [vi 0, vi 1, vi (pw p - 1), vi (pw p), vi (pw p / 2), vi (-1)]) hl') I4.ext.2.1)
        refine ⟨s, l', _, rfl, upd_self, by simp, by simp, I4.ext.2.1.ne hl', I5.ext.2.1, fun w τ5 hw hE5 _ => ?_⟩
        have I6 := I5.step hE5
        obtain ⟨x, rfl⟩ : ∃ x : Int, w = vi x := by
          simp only [List.mem_cons, List.not_mem_nil, or_false] at hw
          rcases hw with rfl | rfl | rfl | rfl | rfl | rfl <;> exact ⟨_, rfl⟩
        refine jb_add (je_bin (je_int (je_int (jb_pow2 (by decide) (by decide) (jb_modp (by decide +kernel) ?_)))))
        have hm0 : 0 ≤ (n + x) % 4294967296 := Int.emod_nonneg _ (by decide)
        have hm1 : (n + x) % 4294967296 < 4294967296 := Int.emod_lt_of_pos _ (by decide)
        rw [show ((2 : Int) ^ (32 : Int).toNat) = 4294967296 from by decide +kernel]
        generalize (n + x) % 4294967296 = y at hm0 hm1 ⊢
        refine ⟨_, I6.dl, by rw [List.length_map, I6.len]; omega, rfl, ?_⟩
        refine js_nil ⟨as ++ [y], I6.e0, I6.e1, I6.e2, I6.e7, I6.dn, I6.ds, by rw [upd_self, List.map_append]; rfl, by rw [List.length_append, I6.len]; rfl, fun a ha => ?_, ?_⟩
        · rcases List.mem_append.mp ha with h | h
          · exact I6.ok a h
          · rw [List.mem_singleton.mp h]; exact ⟨hm0, by omega⟩
        · refine ⟨fun z o hz e => ?_, ?_, I6.ext.2.2.trans .upd⟩
          · rw [upd_other]; exact I6.ext.1 z o hz e
            rintro rfl; rw [I6.dn] at e; cases e
          · obtain ⟨a, b, h1, h2⟩ := I6.ext.2.1
            exact ⟨a, b, by rw [upd_other (Ne.symm I6.ds)]; exact h1, h2⟩
    · rintro ρ τ ⟨as, I⟩
      exact js_cons (js_ret (je_loc O l2 I.e2 (hQ d τ as I.dn I.ds I.dl I.len I.ok I.ext)))

theorem pw_mul {p : Int} (h0 : 0 ≤ p) (h1 : p ≤ 32) : ∃ m : Int, 4294967296 = m * pw p := by
  refine ⟨2 ^ p.toNat, ?_⟩
  unfold pw
  rw [← Int.pow_add, show p.toNat + (32 - p).toNat = 32 by omega]
  decide +kernel
theorem NetOk.top {n p : Int} (h : NetOk n p) : n + pw p ≤ 4294967296 := by
  obtain ⟨m, hm⟩ := pw_mul h.p0 h.p1
  have hw := pw_pos p
  have hn := h.net
  unfold netI at hn
  have h1 : n / pw p < m := by
    rcases Int.lt_or_le (n / pw p) m with h2 | h2
    · exact h2
    · have := Int.mul_le_mul_of_nonneg_right h2 (Int.le_of_lt hw)
      have := h.n1
      omega
  have h2 : (n / pw p + 1) * pw p ≤ m * pw p := Int.mul_le_mul_of_nonneg_right (by omega) (Int.le_of_lt hw)
  rw [Int.add_mul, Int.one_mul, hn, ← hm] at h2
  exact h2
theorem net_in {n p a : Int} (h : NetOk n p) (h0 : 0 ≤ a) : (netI a p == netI n p) = (decide (n ≤ a) && decide (a < n + pw p)) := by
  have hw := pw_pos p
  rw [h.net]
  unfold netI
  have h2 := Int.mul_ediv_add_emod a (pw p)
  have h3 := Int.emod_nonneg a (Int.ne_of_gt hw)
  have h4 := Int.emod_lt_of_pos a hw
  have hn := h.net
  unfold netI at hn
  have e : a / pw p * pw p = pw p * (a / pw p) := Int.mul_comm _ _
  by_cases hc : n ≤ a ∧ a < n + pw p
  · rw [decide_eq_true hc.1, decide_eq_true hc.2]
    have : a / pw p = n / pw p := by
      have h5 : a = (a - n) + n / pw p * pw p := by omega
      have h6 : ((a - n) + n / pw p * pw p) / pw p = n / pw p := by
        rw [Int.add_mul_ediv_right _ _ (Int.ne_of_gt hw), Int.ediv_eq_zero_of_lt (by omega) (by omega), Int.zero_add]
      rw [← h5] at h6
      exact h6
    rw [this, hn]; simp
  · have : ¬ a / pw p * pw p = n := by
      intro h5
      exact hc ⟨by omega, by omega⟩
    rw [show (a / pw p * pw p == n) = false from by simpa using this]
    by_cases h6 : n ≤ a
    · rw [decide_eq_true h6, decide_eq_false fun h7 => hc ⟨h6, h7⟩]; rfl
    · rw [decide_eq_false h6]; rfl
noncomputable def bitsS : SpecT := fun vs σ Q => ∃ s : Addr, vs = [.ref s] ∧ Src σ s ∧ ∀ τ, Ext s σ τ → Q (.bool true) τ
theorem jc_ne_bool {G : GP} {c : FC} {ρ : LE} {σ : AH} {n : Nat} {Q : Value → AH → Prop} {a b : Bool} (O : c.Ok G n) (h : Q (.bool (!(a == b))) σ) : JC G c ρ σ .NotEq (.bool a) (.bool b) Q :=
  jc_neD O (.bool a) (.bool b) rfl rfl h
theorem v_bits_right (G : GP) : Valid G (.ref 335) 5 bitsS := by
  refine valid_def (n := 4) [S "source"] [S "source", S "net", S "prefix", S "size", S "address", S "inside", S "told"] [S "_law_net", S "mask_of", S "is_in", S "is_broadcast"] 1 (by k_is) (by k_is) ?_ ?_ rfl rfl rfl ?_ ?_ ?_ ?_ rfl rfl ?_
  · rintro vs σ Q ⟨s, rfl, HS, hQ⟩; rfl
  · intro us hl
    rcases us with _ | ⟨u0, _ | ⟨u1, us⟩⟩ <;> first | (exfalso; simp at hl; done) | rfl
  · decide +kernel
  · decide +kernel
  · decide +kernel
  · decide +kernel
  · rintro c O hnm hgl vs σ Q ⟨s, rfl, HS, hQ⟩
    show JX G c _ _ (execs (_ :: _) c.env) _ _
    have l0 : LocAt c 0 (S "source") := by unfold LocAt; rw [hnm]; rfl
    have l1 : LocAt c 1 (S "net") := by unfold LocAt; rw [hnm]; rfl
    have l2 : LocAt c 2 (S "prefix") := by unfold LocAt; rw [hnm]; rfl
    have l3 : LocAt c 3 (S "size") := by unfold LocAt; rw [hnm]; rfl
    have l4 : LocAt c 4 (S "address") := by unfold LocAt; rw [hnm]; rfl
    have l5 : LocAt c 5 (S "inside") := by unfold LocAt; rw [hnm]; rfl
    have l6 : LocAt c 6 (S "told") := by unfold LocAt; rw [hnm]; rfl
    have g0 : GlAt c (S "_law_net") := by unfold GlAt; rw [hgl]; simp
    have g1 : GlAt c (S "mask_of") := by unfold GlAt; rw [hgl]; simp
    have g2 : GlAt c (S "is_in") := by unfold GlAt; rw [hgl]; simp
    have g3 : GlAt c (S "is_broadcast") := by unfold GlAt; rw [hgl]; simp
    have g2' := g2
    have g3' := g3
    refine js_cons (js_assign_tup ?_)
    refine je_call O g0 (t_net G) (v_net G) (by decide) ?_
    refine ja_cons (je_loc O l0 rfl (ja_nil ?_))
    refine ⟨s, rfl, HS, fun t τ n p ht hts hv hok hE => ?_⟩
    refine jas_tup2 hv (jas_name O l1 (jas_name O l2 ?_))
    have hpos := pw_pos p
    have hple := pw_le hok.p0
    have hp0 := hok.p0
    have hp1 := hok.p1
    have hn0 := hok.n0
    have hn1 := hok.n1
    have htop := hok.top
    refine js_cons (js_assign O l3 (je_bin (je_int (je_bin (je_int (je_loc O l2 rfl (jb_sub ?_)))))))
    refine jb_pow2 (by omega) (by omega) ?_
    show JX G c ((((([some (Value.ref s)] ++ List.replicate 6 none).set 1 (some (vi n))).set 2 (some (vi p))).set 3 (some (vi (pw p))))) _ _ _ _
    refine js_cons (js_if (jt_cmp (je_bin ?_)))
    refine je_call O g1 (t_mask_of G) (v_mask_of G) (by decide) ?_
    refine ja_cons (je_loc O l2 rfl (ja_nil ⟨p, rfl, hp0, hp1, ?_⟩))
    refine je_loc O l3 rfl (jb_add (je_bin (je_int (je_int (jb_pow2 (by decide) (by decide) (jc_ne (asB ?_)))))))
    rw [show maskI p + pw p = 4294967296 by unfold maskI; omega, show ((2 : Int) ^ (32 : Int).toNat) = 4294967296 from by decide +kernel]
    refine ⟨fun h => (by simp at h), fun _ => js_nil ?_⟩
    refine js_cons ?_
    refine js_for_list ?_ (fun _ _ _ _ _ _ _ _ hq => go_name hq)
    refine je_list ?_
    refine ja_cons (je_loc O l1 rfl (ja_cons (je_bin (je_bin (je_loc O l1 rfl (je_loc O l3 rfl (jb_add (je_int (jb_sub ?_)))))))))
    refine ja_cons (je_bin (je_bin (je_loc O l1 rfl (je_loc O l3 rfl (jb_add (je_bin (je_int (je_int (jb_pow2 (by decide) (by decide) (jb_modp (by decide +kernel) ?_))))))))))
    refine ja_cons (je_bin (je_bin (je_int (je_int (jb_pow2 (by decide) (by decide) (je_int (jb_sub (ja_nil ⟨by simp, fun d hd => ?_⟩)))))))) 
    rw [show ((2 : Int) ^ (32 : Int).toNat) = 4294967296 from by decide +kernel]
    have hm0 : 0 ≤ (n + pw p) % 4294967296 := Int.emod_nonneg _ (by decide)
    have hm1 : (n + pw p) % 4294967296 < 4294967296 := Int.emod_lt_of_pos _ (by decide)
    have hall : ∀ (k : Nat) (w : Value), [vi n, vi (n + pw p - 1), vi ((n + pw p) % 4294967296), vi (4294967296 - 1)][k]? = some w → ∃ a : Int, w = vi a ∧ 0 ≤ a ∧ a ≤ 4294967295 := by
      intro k w hw
      rcases k with _ | _ | _ | _ | k <;> simp at hw
      · exact ⟨n, hw.symm, hn0, hn1⟩
      · exact ⟨_, hw.symm, by omega, by omega⟩
      · exact ⟨_, hw.symm, hm0, by omega⟩
      · exact ⟨_, hw.symm, by decide, by decide⟩
    have hE2 : Ext s σ (upd τ d (.list [vi n, vi (n + pw p - 1), vi ((n + pw p) % 4294967296), vi (4294967296 - 1)])) := hE.trans (Ext.of_sub (Sub.upd hd) hE.2.1)
    have hself : (upd τ d (.list [vi n, vi (n + pw p - 1), vi ((n + pw p) % 4294967296), vi (4294967296 - 1)])) d = some (.list [vi n, vi (n + pw p - 1), vi ((n + pw p) % 4294967296), vi (4294967296 - 1)]) := upd_self
    generalize upd τ d (.list [vi n, vi (n + pw p - 1), vi ((n + pw p) % 4294967296), vi (4294967296 - 1)]) = τ2 at hE2 hself ⊢
    generalize [vi n, vi (n + pw p - 1), vi ((n + pw p) % 4294967296), vi (4294967296 - 1)] = vs at hself hall ⊢
    refine ⟨d, vs, fun k ρ τ' => τ' = τ2 ∧ ρ[1]? = some (some (vi n)) ∧ ρ[2]? = some (some (vi p)) ∧ ρ[3]? = some (some (vi (pw p))) ∧ 7 ≤ ρ.length, rfl, hself, ⟨rfl, rfl, rfl, rfl, by simp⟩, fun k ρ τ' h => by rw [h.1]; exact hself, ?_, ?_⟩
    · rintro k ρ τ' w ⟨rfl, e1, e2, e3, e7⟩ hw
      obtain ⟨a, rfl, a0, a1⟩ := hall k w hw
      refine jas_name O l4 ?_
      have f1 : (ρ.set 4 (some (vi a)))[1]? = some (some (vi n)) := by rw [List.getElem?_set_ne (by decide)]; exact e1
      have f2 : (ρ.set 4 (some (vi a)))[2]? = some (some (vi p)) := by rw [List.getElem?_set_ne (by decide)]; exact e2
      have f3 : (ρ.set 4 (some (vi a)))[3]? = some (some (vi (pw p))) := by rw [List.getElem?_set_ne (by decide)]; exact e3
      have f4 : (ρ.set 4 (some (vi a)))[4]? = some (some (vi a)) := by rw [List.getElem?_set_self (by omega)]
      have f7 : 7 ≤ (ρ.set 4 (some (vi a))).length := by rw [List.length_set]; exact e7
      generalize ρ.set 4 (some (vi a)) = ρ1 at f1 f2 f3 f4 f7 ⊢
      have e32 : ((2 : Int) ^ (32 : Int).toNat) = 4294967296 := by decide +kernel
      refine js_seq (fun ρ' τ'' => τ'' = τ' ∧ ρ'[1]? = some (some (vi n)) ∧ ρ'[2]? = some (some (vi p)) ∧ ρ'[3]? = some (some (vi (pw p))) ∧ ρ'[4]? = some (some (vi a)) ∧ ρ'[5]? = some (some (.bool (decide (n ≤ a) && decide (a < n + pw p)))) ∧ 7 ≤ ρ'.length) ?_ ?_
      · have fin : ∀ b : Bool, b = (decide (n ≤ a) && decide (a < n + pw p)) → (fun (ρ' : LE) (τ'' : AH) => τ'' = τ' ∧ ρ'[1]? = some (some (vi n)) ∧ ρ'[2]? = some (some (vi p)) ∧ ρ'[3]? = some (some (vi (pw p))) ∧ ρ'[4]? = some (some (vi a)) ∧ ρ'[5]? = some (some (.bool (decide (n ≤ a) && decide (a < n + pw p)))) ∧ 7 ≤ ρ'.length) (ρ1.set 5 (some (.bool b))) τ' := fun b hb => by
          subst hb
          refine ⟨rfl, ?_, ?_, ?_, ?_, ?_, ?_⟩
          · rw [List.getElem?_set_ne (by decide)]; exact f1
          · rw [List.getElem?_set_ne (by decide)]; exact f2
          · rw [List.getElem?_set_ne (by decide)]; exact f3
          · rw [List.getElem?_set_ne (by decide)]; exact f4
          · rw [List.getElem?_set_self (by omega)]
          · rw [List.length_set]; exact f7
        refine js_assign O l5 (je_chain (je_loc O l1 f1 (je_loc O l4 f4 (jc_le ⟨_, rfl, fun hb => ?_, fun hb => fin false ?_⟩))))
        · refine je_bin (je_loc O l1 f1 (je_loc O l3 f3 (jb_add (jc_lt (fin _ ?_)))))
          rw [hb]; rfl
        · rw [hb]; rfl
      rintro ρ2 τ3 ⟨rfl, g1, g2, g3, g4, g5, g7⟩
      have et : decide (a = 4294967295) = (a == 4294967295) := by by_cases h : a = 4294967295 <;> simp [h]
      refine js_seq (fun ρ' τ'' => τ'' = τ3 ∧ ρ'[1]? = some (some (vi n)) ∧ ρ'[2]? = some (some (vi p)) ∧ ρ'[3]? = some (some (vi (pw p))) ∧ ρ'[4]? = some (some (vi a)) ∧ ρ'[5]? = some (some (.bool (decide (n ≤ a) && decide (a < n + pw p)))) ∧ ρ'[6]? = some (some (.bool (bcI a n p))) ∧ 7 ≤ ρ'.length) ?_ ?_
      · have fin : ∀ b : Bool, b = bcI a n p → (fun (ρ' : LE) (τ'' : AH) => τ'' = τ3 ∧ ρ'[1]? = some (some (vi n)) ∧ ρ'[2]? = some (some (vi p)) ∧ ρ'[3]? = some (some (vi (pw p))) ∧ ρ'[4]? = some (some (vi a)) ∧ ρ'[5]? = some (some (.bool (decide (n ≤ a) && decide (a < n + pw p)))) ∧ ρ'[6]? = some (some (.bool (bcI a n p))) ∧ 7 ≤ ρ'.length) (ρ2.set 6 (some (.bool b))) τ3 := fun b hb => by
          subst hb
          refine ⟨rfl, ?_, ?_, ?_, ?_, ?_, ?_, ?_⟩
          · rw [List.getElem?_set_ne (by decide)]; exact g1
          · rw [List.getElem?_set_ne (by decide)]; exact g2
          · rw [List.getElem?_set_ne (by decide)]; exact g3
          · rw [List.getElem?_set_ne (by decide)]; exact g4
          · rw [List.getElem?_set_ne (by decide)]; exact g5
          · rw [List.getElem?_set_self (by omega)]
          · rw [List.length_set]; exact g7
        refine js_assign O l6 (je_or2 (je_cmp (je_loc O l4 g4 (je_bin (je_bin (je_int (je_int (jb_pow2 (by decide) (by decide) (je_int (jb_sub (jc_eq ⟨_, rfl, fun hb => ?_, fun hb => fin true ?_⟩)))))))))))
        rotate_left
        · rw [e32] at hb
          unfold bcI; rw [if_pos (by simpa using hb)]
        rw [e32] at hb
        have hna : ¬ a = 4294967295 := by simpa using hb
        refine je_and2 (je_cmp (je_loc O l2 g2 (je_int (jc_lt ⟨_, rfl, fun hc => ?_, fun hc => fin false ?_⟩))))
        · have hc' : p < 31 := by simpa using hc
          refine je_cmp (je_loc O l4 g4 (je_bin (je_bin (je_loc O l1 g1 (je_loc O l3 g3 (jb_add (je_int (jb_sub (jc_eq (fin _ ?_))))))))))
          unfold bcI
          rw [if_neg hna, if_neg (by omega), hok.net]
          unfold maskI
          rw [show n + (4294967295 - (4294967295 - (pw p - 1))) = n + pw p - 1 by omega]
        · have hc' : ¬ p < 31 := by simpa using hc
          unfold bcI
          rw [if_neg hna, if_pos (by omega)]
      rintro ρ3 τ4 ⟨rfl, k1, k2, k3, k4, k5, k6, k7⟩
      refine js_cons (js_if (jt_bool (jal_or (jt_cmp ?_))))
      refine je_call O g2' (t_is_in G) (v_is_in G) (by decide) ?_
      refine ja_cons (je_loc O l4 k4 (ja_cons (je_loc O l1 k1 (ja_cons (je_loc O l2 k2 (ja_nil ?_))))))
      refine ⟨a, n, p, rfl, a0, a1, hn0, hn1, hp0, hp1, ?_⟩
      rw [net_in hok a0]
      refine je_loc O l5 k5 (jc_ne_bool O (asB ⟨fun h => (by simp at h), fun _ => ?_⟩))
      refine jal_or (jt_cmp ?_)
      refine je_call O g3' (t_is_broadcast G) (v_is_broadcast G) (by decide) ?_
      refine ja_cons (je_loc O l4 k4 (ja_cons (je_loc O l1 k1 (ja_cons (je_loc O l2 k2 (ja_nil ?_))))))
      refine ⟨a, n, p, rfl, hn0, hn1, hp0, hp1, ?_⟩
      refine je_loc O l6 k6 (jc_ne_bool O (asB ⟨fun h => (by simp at h), fun _ => ?_⟩))
      exact jal_or0 ⟨fun h => (by cases h), fun _ => js_nil (js_nil ⟨rfl, k1, k2, k3, k7⟩)⟩
    · rintro ρ τ' ⟨rfl, _⟩
      exact js_cons (js_ret (je_bool (hQ _ hE2)))

noncomputable def poolS (G : GP) : SpecT := fun vs σ Q => vs = [.ref G.sc, vi 0] ∧ G.ns.length ≤ 1000 ∧ ∀ d τ, σ d = none → Sub σ τ → Src τ d → Q (.ref d) τ
theorem j_callT {G : GP} {c : FC} {env : Env} {ρ : LE} {σ : AH} {Q : Value → AH → Prop} {T : String} {p : Pos} {e : Expr}
    (h : JE G c ρ σ (eval e env) (fun v σ1 => ∀ u, er u = v → JE G c ρ σ1 (call (.type T) [u]) Q)) (hse : backTo p (starEach [e] env) = [(false, eval e env)] := by rfl) : JE G c ρ σ (callWith p (.type T) [] (backTo p (starEach [e] env)) []) Q := .mk fun Φ s E S => by
  rw [hse]
  exact PySem.callWith_type rfl (Calls.evalArgs_plain (Calls.spliced_cons (wpAny_mono (h.run Φ s E S) (fun v s2 ⟨z2, σ2, h2, S2⟩ => Calls.spliced_nil (wpAny_mono ((h2 v rfl).run Φ s2 E S2) (fun w s3 ⟨z3, σ3, h3, S3⟩ => ⟨z2.trans z3, σ3, h3, S3⟩) fun _ _ x => x)) fun _ _ x => x)))
theorem je_toint {G : GP} {c : FC} {ρ : LE} {σ : AH} {n : Nat} {Q : Value → AH → Prop} {xp p : Pos} {e : Expr} (O : c.Ok G n) (g : GlAt c (S "int"))
    (h : JE G c ρ σ (eval e c.env) (fun v σ1 => (∃ i, v = vi i ∧ Q (vi i) σ1) ∨ (∃ b : Bool, v = .bool b ∧ Q (vi (if b then 1 else 0)) σ1))) (hse : backTo p (starEach [e] c.env) = [(false, eval e c.env)] := by rfl) : JE G c ρ σ (eval (.Call (.Name (S "int") xp) [e] [] p) c.env) Q := by
  rw [eval_CallName]
  refine J.bind (j_bname O g (b_int G).at_ (b_int G).boot (b_int G).ne (j_callT (J.mono h fun v σ1 h1 u eu => ?_) hse))
  rcases h1 with ⟨i, h2, h3⟩ | ⟨b, h2, h3⟩
  · rw [h2] at eu
    obtain ⟨t, rfl⟩ := er_int eu
    exact j_toint h3
  · rw [h2] at eu
    rw [er_bool eu]
    exact j_tobool h3
theorem je_max {G : GP} {c : FC} {ρ : LE} {σ : AH} {n : Nat} {Q : Value → AH → Prop} {xp p : Pos} {e1 e2 : Expr} (O : c.Ok G n) (g : GlAt c (S "max"))
    (h : JE G c ρ σ (eval e1 c.env) (fun v σ1 => JE G c ρ σ1 (eval e2 c.env) (fun w σ2 => ∃ i j, v = vi i ∧ w = vi j ∧ Q (vi (if j > i then j else i)) σ2))) (he1 : starEach [e1, e2] c.env = (false, eval e1 c.env) :: starEach [e2] c.env := by rfl) (he2 : starEach [e2] c.env = (false, eval e2 c.env) :: starEach [] c.env := by rfl) (hp : (backTo p (starEach [e2] c.env)).any (·.1) = false := by rfl) : JE G c ρ σ (eval (.Call (.Name (S "max") xp) [e1, e2] [] p) c.env) Q := by
  refine je_callb O g (b_max G) (.mk fun Φ s E S => ?_) he1 hp
  refine args_cons (wpAny_mono (h.run Φ s E S) (fun v s1 ⟨z, σ1, h1, S1⟩ => args_cons (wpAny_mono (h1.run Φ s1 E S1) (fun w s2 ⟨z2, σ2, h2, S2⟩ => args_nil ⟨z.trans z2, σ2, ?_, S2⟩) fun _ _ x => x) he2) fun _ _ x => x) he1
  obtain ⟨i, j, ev, ew, hq⟩ := h2
  obtain ⟨t, rfl⟩ := er_int ev
  obtain ⟨t', rfl⟩ := er_int ew
  exact j_max hq
theorem je_len_script {G : GP} {c : FC} {ρ : LE} {σ : AH} {n : Nat} {Q : Value → AH → Prop} {xp p : Pos} {e : Expr} (O : c.Ok G n) (g : GlAt c (S "len")) (hz : G.ns.length ≤ 1000)
    (h : JE G c ρ σ (eval e c.env) (fun v σ1 => v = .ref G.sc ∧ Q (vi G.ns.length) σ1)) (he : starEach [e] c.env = (false, eval e c.env) :: starEach [] c.env := by rfl) : JE G c ρ σ (eval (.Call (.Name (S "len") xp) [e] [] p) c.env) Q := by
  refine je_callb O g (b_len G) (.mk fun Φ s E S => ?_) he rfl
  refine args_cons (wpAny_mono (h.run Φ s E S) (fun w s1 ⟨z, σ2, h3, S1⟩ => args_nil ⟨z, σ2, ?_, S1⟩) fun _ _ x => x) he
  rw [er_ref h3.1]
  exact j_len_script O hz h3.2
theorem v_pool (G : GP) : Valid G (.ref 255) 1 (poolS G) := by
  refine valid_def (n := 0) [S "script", S "k"] [S "script", S "k", S "cell", S "big"] [S "len", S "max", S "int"] 2 (by k_is) (by k_is) ?_ ?_ rfl rfl rfl ?_ ?_ ?_ ?_ rfl rfl ?_
  · rintro vs σ Q ⟨rfl, hz, hQ⟩; rfl
  · intro us hl
    rcases us with _ | ⟨u0, _ | ⟨u1, _ | ⟨u2, us⟩⟩⟩ <;> first | (exfalso; simp at hl; done) | rfl
  · decide +kernel
  · decide +kernel
  · decide +kernel
  · decide +kernel
  · rintro c O hnm hgl vs σ Q ⟨rfl, hz, hQ⟩
    show JX G c _ _ (execs (_ :: _) c.env) _ _
    have l0 : LocAt c 0 (S "script") := by unfold LocAt; rw [hnm]; rfl
    have l1 : LocAt c 1 (S "k") := by unfold LocAt; rw [hnm]; rfl
    have l2 : LocAt c 2 (S "cell") := by unfold LocAt; rw [hnm]; rfl
    have l3 : LocAt c 3 (S "big") := by unfold LocAt; rw [hnm]; rfl
    have g0 : GlAt c (S "len") := by unfold GlAt; rw [hgl]; simp
    have g1 : GlAt c (S "max") := by unfold GlAt; rw [hgl]; simp
    have g2 : GlAt c (S "int") := by unfold GlAt; rw [hgl]; simp
    refine js_seq (fun ρ τ => τ = σ ∧ ∃ cell : Int, ρ = [some (.ref G.sc), some (vi 0), some (vi cell), none]) ?_ ?_
    · refine js_assign O l2 (je_if (jt_cmp (je_loc O l1 rfl ?_)))
      refine je_len_script O g0 hz (je_loc O l0 rfl ⟨rfl, jc_lt (asB ⟨fun hb => ?_, fun hb => je_int ⟨rfl, 0, rfl⟩⟩)⟩)
      have hb' : (0 : Int) < G.ns.length := by simpa using hb
      obtain ⟨v, hv⟩ : ∃ v, G.ns[(0 : Int).toNat]? = some v := ⟨_, List.getElem?_eq_getElem (by show 0 < _; omega)⟩
      refine je_sub (je_loc O l0 rfl (je_loc O l1 rfl ?_))
      exact js2_script O (by decide) (by decide) hv ⟨rfl, v, rfl⟩
    rintro ρ τ ⟨rfl, cell, rfl⟩
    refine js_cons (js_assign O l3 ?_)
    refine je_max O g1 ?_
    refine je_toint O g2 (je_loc O l2 rfl (.inl ⟨cell, rfl, ?_⟩))
    refine je_toint O g2 (je_bin (je_usub (je_int ⟨1, rfl, je_loc O l2 rfl (jb_sub (.inl ⟨_, rfl, cell, _, rfl, rfl, ?_⟩))⟩)))
    generalize (if -1 - cell > cell then -1 - cell else cell) = big
    show JX G c [some (.ref G.sc), some (vi 0), some (vi cell), some (vi big)] _ _ _ _
    refine js_cons (js_ret (je_list (ja_cons (je_bin (je_loc O l3 rfl ?_)))))
    refine je_toint O g2 (je_cmp (je_loc O l3 rfl (je_bin (je_int (je_int (jb_pow10 (by decide) (by decide) (jc_ge (.inr ⟨_, rfl, ?_⟩))))))))
    refine jb_mulr (by split <;> decide) ?_
    refine ja_cons (je_bin (je_bin (je_bin (je_bin (je_bin (je_loc O l3 rfl (je_int (jb_modp (by decide) ?_))))))))
    refine je_bin (je_int (je_loc O l1 rfl (jb_mulr (by decide) (jb_add (je_int (jb_add (je_int (jb_mulr (by decide) (je_int (jb_modp (by decide) (ja_nil ⟨by simp, fun d hd => ?_⟩)))))))))))
    exact hQ d _ hd (Sub.upd hd) ⟨_, _, upd_self, Int.emod_nonneg _ (by decide), Int.emod_lt_of_pos _ (by decide)⟩
end Mine
end

section
open PySem PySem.W PyProof.Rows PySem.Spec PySem.Calls
namespace Mine
/-! paths and numbers -/
noncomputable def qw (k : Nat) : Int := 2 ^ (32 - k)
theorem qw_pos (k : Nat) : 0 < qw k := two_pos _
theorem qw_succ {k : Nat} (h : k < 32) : qw k = 2 * qw (k + 1) := by
  unfold qw
  rw [show 32 - k = (32 - (k + 1)) + 1 by omega, Int.pow_succ, Int.mul_comm]
theorem bitI_eq {a : Int} {k : Nat} (h : k < 32) : bitI a k = a / qw (k + 1) % 2 := by
  unfold bitI qw
  rw [show ((31 : Int) - (k : Int)).toNat = 32 - (k + 1) by omega]
theorem div_qw {a : Int} {k : Nat} (h : k < 32) : a / qw k = a / qw (k + 1) / 2 := by
  rw [qw_succ h, Int.mul_comm, ← Int.ediv_ediv_of_nonneg (Int.le_of_lt (qw_pos _))]
theorem bitB_eq {a b : Int} {k : Nat} (h : k < 32) : (bitB a k = bitB b k) ↔ a / qw (k + 1) % 2 = b / qw (k + 1) % 2 := by
  unfold bitB
  rw [bitI_eq h, bitI_eq h]
  have h1 := Int.emod_two_eq (a / qw (k + 1))
  have h2 := Int.emod_two_eq (b / qw (k + 1))
  rcases h1 with h1 | h1 <;> rcases h2 with h2 | h2 <;> rw [h1, h2] <;> simp
theorem path_iff {a b : Int} (ha : 0 ≤ a) (ha' : a ≤ 4294967295) (hb : 0 ≤ b) (hb' : b ≤ 4294967295) : ∀ {k : Nat}, k ≤ 32 → (pathOf a k = pathOf b k ↔ a / qw k = b / qw k)
  | 0, _ => by
    have h32 : qw 0 = 4294967296 := by decide +kernel
    rw [h32]
    simp only [pathOf_zero, true_iff]
    omega
  | k + 1, hk => by
    have ih := path_iff ha ha' hb hb' (k := k) (by omega)
    rw [pathOf_succ, pathOf_succ]
    have h1 := div_qw (a := a) (k := k) (by omega)
    have h2 := div_qw (a := b) (k := k) (by omega)
    constructor
    · intro h
      obtain ⟨e1, e2⟩ := snoc_inj h
      have e3 := ih.mp e1
      have e4 := (bitB_eq (by omega)).mp e2
      omega
    · intro h
      have e3 : a / qw k = b / qw k := by rw [h1, h2, h]
      rw [ih.mpr e3, (bitB_eq (a := a) (b := b) (k := k) (by omega)).mpr (by rw [h])]
theorem pw_qw {p : Int} (h0 : 0 ≤ p) (h1 : p ≤ 32) : pw p = qw p.toNat := by
  unfold pw qw
  rw [show (32 - p).toNat = 32 - p.toNat by omega]
theorem Row.path_len {r : Row} : r.path.length = r.p.toNat := pathOf_len
theorem net_eq {n p : Int} (h : NetOk n p) : n = n / qw p.toNat * qw p.toNat := by
  have := h.net
  unfold netI at this
  rw [pw_qw h.p0 h.p1] at this
  exact this.symm
theorem path_inj {r r' : Row} (h : NetOk r.n r.p) (h' : NetOk r'.n r'.p) : r.path = r'.path ↔ r.n = r'.n ∧ r.p = r'.p := by
  constructor
  · intro e
    have el := congrArg List.length e
    rw [Row.path_len, Row.path_len] at el
    have hp0 := h.p0
    have hp0' := h'.p0
    have hp1 := h.p1
    have ep : r.p = r'.p := by omega
    refine ⟨?_, ep⟩
    unfold Row.path at e
    rw [← ep] at e
    have := (path_iff h.n0 h.n1 h'.n0 h'.n1 (k := r.p.toNat) (by omega)).mp e
    have n1 := net_eq h
    have n2 := net_eq h'
    rw [← ep] at n2
    rw [n1, n2, this]
  · rintro ⟨e1, e2⟩
    unfold Row.path; rw [e1, e2]
theorem hit_iff {r : Row} {a : Int} (h : NetOk r.n r.p) (a0 : 0 ≤ a) (a1 : a ≤ 4294967295) : r.n / pw r.p = a / pw r.p ↔ r.path = pathOf a r.p.toNat := by
  have hp0 := h.p0
  have hp1 := h.p1
  rw [pw_qw h.p0 h.p1]
  exact (path_iff h.n0 h.n1 a0 a1 (by omega)).symm

/-! the trie's contents are the rows' -/
noncomputable def Cor (T : Trie) (ws : List (Addr × Row)) : Prop := ∀ p, (cts T p).map (·.2) = (ws.map (·.2)).filter fun r => decide (r.path = p)
abbrev AllOk (ws : List (Addr × Row)) : Prop := ∀ q ∈ ws, RowOk q.2
theorem Cor.len {T : Trie} {ws : List (Addr × Row)} (h : Cor T ws) (p : Path) : (cts T p).length ≤ ws.length := by
  have := congrArg List.length (h p)
  rw [List.length_map] at this
  rw [this]
  exact Nat.le_trans (List.length_filter_le _ _) (by rw [List.length_map]; exact Nat.le_refl _)
theorem Cor.wf {T : Trie} {ws : List (Addr × Row)} (h : Cor T ws) (ok : AllOk ws) : WfT T := fun p q hq => by
  have : q.2 ∈ (cts T p).map (·.2) := List.mem_map_of_mem hq
  rw [h p] at this
  obtain ⟨h1, h2⟩ := List.mem_filter.mp this
  obtain ⟨q', hq', e⟩ := List.mem_map.mp h1
  exact ⟨by simpa using h2, e ▸ (ok q' hq').good⟩
theorem filter_putW {r : Row} {t : Addr} (hr : RowOk r) : ∀ {ws : List (Addr × Row)}, AllOk ws → ∀ {x : Addr} {rs : List (Addr × Row)}, rs.map (·.2) = (ws.map (·.2)).filter (fun r' => decide (r'.path = r.path)) →
    (putR (x, r) rs).map (·.2) = ((putW (t, r) ws).map (·.2)).filter (fun r' => decide (r'.path = r.path))
  | [], _, x, rs, h => by
    have : rs = [] := by simpa using h
    subst this
    simp [putR, putW]
  | q :: ws, ok, x, rs, h => by
    have okq := ok q (.head _)
    have okr : AllOk ws := fun q' h => ok q' (.tail _ h)
    by_cases hp : q.2.path = r.path
    · obtain ⟨en, ep⟩ := (path_inj okq.net hr.net).mp hp
      simp only [List.map_cons, List.filter_cons, hp, decide_true, if_true] at h
      cases rs with
      | nil => simp at h
      | cons y rs =>
        simp only [List.map_cons, List.cons.injEq] at h
        obtain ⟨h1, h2⟩ := h
        have eh : hitW (t, r) q = hitR (x, r) y := by
          unfold hitW hitR
          rw [h1, en, ep]; simp
        unfold putR putW
        by_cases hh : hitR (x, r) y = true
        · rw [if_pos hh, if_pos (eh.trans hh)]
          simp only [List.map_cons, List.filter_cons, decide_true, if_true]
          rw [h2]
        · rw [if_neg hh, if_neg (by rw [eh]; exact hh)]
          simp only [List.map_cons, List.filter_cons, hp, decide_true, if_true]
          rw [filter_putW hr okr h2, h1]
    · have hh : ¬ hitW (t, r) q = true := by
        intro e
        refine hp ((path_inj okq.net hr.net).mpr ?_)
        unfold hitW at e
        simp only [Bool.and_eq_true, beq_iff_eq] at e
        exact ⟨e.1, e.2.1⟩
      have hd : decide (q.2.path = r.path) = false := decide_eq_false hp
      simp only [List.map_cons, List.filter_cons, hd, Bool.false_eq_true, if_false] at h
      unfold putW
      rw [if_neg hh]
      simp only [List.map_cons, List.filter_cons, hd, Bool.false_eq_true, if_false]
      exact filter_putW hr okr h
theorem filter_putW_other {r : Row} {t : Addr} (hr : RowOk r) {p : Path} (hp : p ≠ r.path) : ∀ {ws : List (Addr × Row)}, AllOk ws → ((putW (t, r) ws).map (·.2)).filter (fun r' => decide (r'.path = p)) = (ws.map (·.2)).filter (fun r' => decide (r'.path = p))
  | [], _ => by
    have : ¬ r.path = p := fun e => hp e.symm
    simp [putW, this]
  | q :: ws, ok => by
    have okq := ok q (.head _)
    have okr : AllOk ws := fun q' h => ok q' (.tail _ h)
    have hr' : decide (r.path = p) = false := decide_eq_false fun e => hp e.symm
    unfold putW
    by_cases hh : hitW (t, r) q = true
    · rw [if_pos hh]
      have hq : q.2.path = r.path := by
        refine (path_inj okq.net hr.net).mpr ?_
        unfold hitW at hh
        simp only [Bool.and_eq_true, beq_iff_eq] at hh
        exact ⟨hh.1, hh.2.1⟩
      have hq' : decide (q.2.path = p) = false := decide_eq_false fun e => hp (e.symm.trans hq)
      simp only [List.map_cons, List.filter_cons, hr', hq', Bool.false_eq_true, if_false]
    · rw [if_neg hh]
      simp only [List.map_cons, List.filter_cons]
      rw [filter_putW_other hr hp okr]
theorem cor_add {T T' : Trie} {ws : List (Addr × Row)} {r : Row} {x t : Addr} (h : Cor T ws) (ok : AllOk ws) (hr : RowOk r) (h' : cts T' = setC (cts T) r.path (putR (x, r) (cts T r.path))) : Cor T' (putW (t, r) ws) := fun p => by
  rw [h']
  unfold setC
  by_cases hp : p = r.path
  · subst hp
    rw [if_pos rfl]
    exact filter_putW hr ok (h r.path)
  · rw [if_neg hp, h p, filter_putW_other hr hp ok]
theorem putW_mem {q x : Addr × Row} : ∀ {ws : List (Addr × Row)}, x ∈ putW q ws → x = q ∨ x ∈ ws
  | [], h => by simp [putW] at h; exact .inl h
  | y :: ws, h => by
    unfold putW at h
    split at h
    · rcases List.mem_cons.mp h with h | h
      · exact .inl h
      · exact .inr (.tail _ h)
    · rcases List.mem_cons.mp h with h | h
      · exact .inr (h ▸ .head _)
      · rcases putW_mem h with h | h
        · exact .inl h
        · exact .inr (.tail _ h)
theorem putW_len {q : Addr × Row} : ∀ {ws : List (Addr × Row)}, (putW q ws).length ≤ ws.length + 1
  | [] => by simp [putW]
  | y :: ws => by
    unfold putW
    split
    · simp
    · have := putW_len (q := q) (ws := ws)
      simp only [List.length_cons]; omega
theorem putW_lenR {r : Row} {t : Addr} (hr : RowOk r) : ∀ {ws : List (Addr × Row)}, AllOk ws → ∀ {x : Addr} {rs : List (Addr × Row)}, rs.map (·.2) = (ws.map (·.2)).filter (fun r' => decide (r'.path = r.path)) →
    (putW (t, r) ws).length + rs.length = ws.length + (putR (x, r) rs).length
  | [], _, x, rs, h => by
    have : rs = [] := by simpa using h
    subst this
    simp [putR, putW]
  | q :: ws, ok, x, rs, h => by
    have okq := ok q (.head _)
    have okr : AllOk ws := fun q' h => ok q' (.tail _ h)
    by_cases hp : q.2.path = r.path
    · obtain ⟨en, ep⟩ := (path_inj okq.net hr.net).mp hp
      simp only [List.map_cons, List.filter_cons, hp, decide_true, if_true] at h
      cases rs with
      | nil => simp at h
      | cons y rs =>
        simp only [List.map_cons, List.cons.injEq] at h
        obtain ⟨h1, h2⟩ := h
        have eh : hitW (t, r) q = hitR (x, r) y := by
          unfold hitW hitR
          rw [h1, en, ep]; simp
        unfold putR putW
        by_cases hh : hitR (x, r) y = true
        · rw [if_pos hh, if_pos (eh.trans hh)]; simp
        · rw [if_neg hh, if_neg (by rw [eh]; exact hh)]
          have := putW_lenR (t := t) hr okr (x := x) h2
          simp only [List.length_cons]; omega
    · have hh : ¬ hitW (t, r) q = true := by
        intro e
        refine hp ((path_inj okq.net hr.net).mpr ?_)
        unfold hitW at e
        simp only [Bool.and_eq_true, beq_iff_eq] at e
        exact ⟨e.1, e.2.1⟩
      have hd : decide (q.2.path = r.path) = false := decide_eq_false hp
      simp only [List.map_cons, List.filter_cons, hd, Bool.false_eq_true, if_false] at h
      unfold putW
      rw [if_neg hh]
      have := putW_lenR (t := t) hr okr (x := x) h
      simp only [List.length_cons]; omega
theorem map_filter2 {f : Row → Bool} {ws : List (Addr × Row)} : (ws.filter fun q => f q.2).map (·.2) = (ws.map (·.2)).filter f := by
  rw [List.filter_map]; rfl
theorem cor_filter {T T' : Trie} {ws : List (Addr × Row)} {f : Row → Bool} (h : Cor T ws) (h' : ∀ p, cts T' p = (cts T p).filter fun q => f q.2) : Cor T' (ws.filter fun q => f q.2) := fun p => by
  rw [h' p, map_filter2, h p, map_filter2, List.filter_filter, List.filter_filter]
  congr 1
  funext r
  exact Bool.and_comm _ _
theorem cor_remove {T T' : Trie} {ws : List (Addr × Row)} {n p : Int} (h : Cor T ws) (ok : AllOk ws) (hn : NetOk n p) (h' : cts T' = setC (cts T) (pathOf n p.toNat) []) : Cor T' (ws.filter fun q => !((q.2.n == n) && ((q.2.p == p) && true))) := by
  have e : ∀ q ∈ ws, (!((q.2.n == n) && ((q.2.p == p) && true))) = !(decide (q.2.path = pathOf n p.toNat)) := fun q hq => by
    have := path_inj (r := q.2) (r' := ⟨n, p, 0, 0, 0⟩) (ok q hq).net hn
    by_cases hh : q.2.path = pathOf n p.toNat
    · obtain ⟨h1, h2⟩ := this.mp hh
      rw [decide_eq_true hh]
      simp only at h1 h2
      rw [h1, h2]; simp
    · have : ¬ (q.2.n = n ∧ q.2.p = p) := fun x => hh (this.mpr x)
      rw [decide_eq_false hh]
      by_cases h1 : q.2.n = n
      · have h2 : ¬ q.2.p = p := fun h2 => this ⟨h1, h2⟩
        simp [h1, h2]
      · simp [h1]
  have e2 : (ws.filter fun q => !((q.2.n == n) && ((q.2.p == p) && true))) = ws.filter fun q => !(decide (q.2.path = pathOf n p.toNat)) := List.filter_congr e
  rw [e2]
  refine cor_filter (f := fun r => !(decide (r.path = pathOf n p.toNat))) h fun q => ?_
  rw [h']
  unfold setC
  have wf := h.wf ok
  by_cases hq : q = pathOf n p.toNat
  · rw [if_pos hq]
    symm
    rw [List.filter_eq_nil_iff]
    intro x hx
    rw [(wf q x hx).1, hq]; simp
  · rw [if_neg hq]
    symm
    rw [List.filter_eq_self]
    intro x hx
    rw [(wf q x hx).1]; simp [hq]
theorem filter_len {α : Type} (f : α → Bool) : ∀ l : List α, (l.filter f).length + (l.filter fun x => !(f x)).length = l.length
  | [] => rfl
  | x :: l => by
    have := filter_len f l
    by_cases h : f x = true
    · simp only [List.filter_cons, h, if_true, Bool.not_true, Bool.false_eq_true, if_false, List.length_cons]; omega
    · have h' : f x = false := by simpa using h
      simp only [List.filter_cons, h', if_true, Bool.not_false, Bool.false_eq_true, if_false, List.length_cons]; omega
theorem remove_len {T : Trie} {ws : List (Addr × Row)} {n p : Int} (h : Cor T ws) (ok : AllOk ws) (hn : NetOk n p) : (cts T (pathOf n p.toNat)).length + (ws.filter fun q => !((q.2.n == n) && ((q.2.p == p) && true))).length = ws.length := by
  have e : ∀ q ∈ ws, ((q.2.n == n) && ((q.2.p == p) && true)) = decide (q.2.path = pathOf n p.toNat) := fun q hq => by
    have := path_inj (r := q.2) (r' := ⟨n, p, 0, 0, 0⟩) (ok q hq).net hn
    by_cases hh : q.2.path = pathOf n p.toNat
    · obtain ⟨h1, h2⟩ := this.mp hh
      rw [decide_eq_true hh]
      simp only at h1 h2
      rw [h1, h2]; simp
    · have : ¬ (q.2.n = n ∧ q.2.p = p) := fun x => hh (this.mpr x)
      rw [decide_eq_false hh]
      by_cases h1 : q.2.n = n
      · have h2 : ¬ q.2.p = p := fun h2 => this ⟨h1, h2⟩
        simp [h1, h2]
      · simp [h1]
  have h1 := congrArg List.length (h (pathOf n p.toNat))
  rw [List.length_map, ← map_filter2, List.length_map] at h1
  rw [h1]
  have e2 : (ws.filter fun q => decide (q.2.path = pathOf n p.toNat)) = ws.filter fun q => ((q.2.n == n) && ((q.2.p == p) && true)) := (List.filter_congr e).symm
  rw [e2]
  exact filter_len _ _
end Mine
end

section
open PySem PySem.W PyProof.Rows PySem.Spec PySem.Calls
namespace Mine
abbrev rowsOf (l : List (Addr × Row)) : List Row := l.map (·.2)
theorem mem_cts_row {T : Trie} {ws : List (Addr × Row)} (h : Cor T ws) {p : Path} {r : Row} (hr : r ∈ rowsOf (cts T p)) : r.path = p ∧ r ∈ rowsOf ws := by
  rw [show rowsOf (cts T p) = _ from h p] at hr
  obtain ⟨h1, h2⟩ := List.mem_filter.mp hr
  exact ⟨by simpa using h2, h1⟩
theorem pre_snoc {p s : Path} {b : Bool} : p ++ [b] <+: s → p <+: s := fun h => (List.prefix_append p [b]).trans h
theorem pre_cases {p s : Path} (h : p <+: s) : p = s ∨ ∃ b, p ++ [b] <+: s ∧ ¬ p ++ [!b] <+: s ∧ p ≠ s := by
  obtain ⟨t, rfl⟩ := h
  cases t with
  | nil => left; simp
  | cons b t =>
    right
    refine ⟨b, ⟨t, by simp⟩, ?_, by simp⟩
    rintro ⟨u, hu⟩
    rw [List.append_assoc] at hu
    have := List.append_cancel_left hu
    simp at this
theorem not_pre_self {p : Path} {b : Bool} : ¬ p ++ [b] <+: p := fun ⟨t, h⟩ => by
  have := congrArg List.length h
  simp at this
theorem count_pre {T : Trie} {ws : List (Addr × Row)} (h : Cor T ws) {r : Row} (hl : r.path.length ≤ 32) : ∀ (n : Nat) {p : Path}, p.length + n = 32 → (rowsOf (pre T n p)).count r = if p <+: r.path then (rowsOf (cts T r.path)).count r else 0
  | 0, p, hn => by
    show (rowsOf (cts T p)).count r = _
    by_cases hp : p <+: r.path
    · rw [if_pos hp]
      have : p = r.path := hp.eq_of_length_le (by omega)
      rw [← this]
    · rw [if_neg hp]
      rw [List.count_eq_zero]
      intro hm
      exact hp ((mem_cts_row h hm).1 ▸ List.prefix_refl _)
  | n + 1, p, hn => by
    have e : rowsOf (pre T (n + 1) p) = rowsOf (cts T p) ++ (rowsOf (pre T n (p ++ [false])) ++ rowsOf (pre T n (p ++ [true]))) := by
      show rowsOf (cts T p ++ (pre T n (p ++ [false]) ++ pre T n (p ++ [true]))) = _
      unfold rowsOf; rw [List.map_append, List.map_append]
    rw [e, List.count_append, List.count_append, count_pre h hl n (p := p ++ [false]) (by simp; omega), count_pre h hl n (p := p ++ [true]) (by simp; omega)]
    have hc : p ≠ r.path → (rowsOf (cts T p)).count r = 0 := fun hne => by
      rw [List.count_eq_zero]
      intro hm
      exact hne (mem_cts_row h hm).1.symm
    by_cases hp : p <+: r.path
    · rw [if_pos hp]
      rcases pre_cases hp with he | ⟨b, h1, h2, h3⟩
      · rw [if_neg (by rw [← he]; exact not_pre_self), if_neg (by rw [← he]; exact not_pre_self), ← he]; rfl
      · rw [hc h3]
        cases b
        · have h2' : ¬ p ++ [true] <+: r.path := h2
          rw [if_pos h1, if_neg h2']; omega
        · have h2' : ¬ p ++ [false] <+: r.path := h2
          rw [if_neg h2', if_pos h1]; omega
    · rw [if_neg hp, if_neg fun x => hp (pre_snoc x), if_neg fun x => hp (pre_snoc x), hc fun e => hp (e ▸ List.prefix_refl _)]
theorem W_perm {T : Trie} {ws : List (Addr × Row)} (h : Cor T ws) (ok : AllOk ws) : (rowsOf (W T [])).Perm (rowsOf ws) := by
  rw [List.perm_iff_count]
  intro r
  by_cases hl : r.path.length ≤ 32
  · have := count_pre h hl 32 (p := []) rfl
    rw [if_pos (List.nil_prefix)] at this
    show (rowsOf (pre T 32 [])).count r = _
    rw [this, show rowsOf (cts T r.path) = _ from h r.path, List.count_filter (by simp)]
  · have n1 : r ∉ rowsOf ws := fun hm => by
      obtain ⟨q, hq, e⟩ := List.mem_map.mp hm
      have := (ok q hq).net.p1
      apply hl
      rw [← e, Row.path_len]; omega
    have n2 : r ∉ rowsOf (W T []) := fun hm => by
      obtain ⟨q, hq, e⟩ := List.mem_map.mp hm
      obtain ⟨p, hp⟩ := mem_pre _ hq
      exact n1 (mem_cts_row h (List.mem_map.mpr ⟨q, hp, e⟩)).2
    rw [List.count_eq_zero.mpr n1, List.count_eq_zero.mpr n2]
/-! in order -/
noncomputable def keyLe (r r' : Row) : Prop := r.n < r'.n ∨ (r.n = r'.n ∧ r.p ≤ r'.p)
theorem take_path {a : Int} {m k : Nat} (h : k ≤ m) : (pathOf a m).take k = pathOf a k := by
  unfold pathOf
  rw [← List.map_take, List.take_range, Nat.min_eq_left h]
theorem pre_path {p : Path} {r : Row} (h : p <+: r.path) : p = pathOf r.n p.length := by
  have hl := h.length_le
  rw [Row.path_len] at hl
  have := List.prefix_iff_eq_take.mp h
  rw [this]
  unfold Row.path
  rw [take_path hl, pathOf_len]
theorem key_up {p : Path} {r r' : Row} (h : NetOk r.n r.p) (h' : NetOk r'.n r'.p) (e : r.path = p) (e' : p <+: r'.path) : keyLe r r' := by
  have hl := e'.length_le
  rw [Row.path_len, ← e, Row.path_len] at hl
  have h1 := pre_path e'
  have h2 := pre_path (r := r) (p := p) (by rw [e]; exact List.prefix_refl _)
  have hp1 := h.p1
  have hp0 := h.p0
  have hp0' := h'.p0
  have ek : p.length = r.p.toNat := by rw [← e, Row.path_len]
  have := (path_iff h.n0 h.n1 h'.n0 h'.n1 (k := p.length) (by omega)).mp (h2.symm.trans h1)
  have n1 := net_eq h
  rw [ek] at this
  have hq := qw_pos r.p.toNat
  have h3 := Int.mul_ediv_add_emod r'.n (qw r.p.toNat)
  have h4 := Int.emod_nonneg r'.n (Int.ne_of_gt hq)
  rw [Int.mul_comm, ← this, ← n1] at h3
  unfold keyLe
  omega
theorem key_split {p : Path} {r r' : Row} (h : NetOk r.n r.p) (h' : NetOk r'.n r'.p) (e : p ++ [false] <+: r.path) (e' : p ++ [true] <+: r'.path) : keyLe r r' := by
  have hl := e.length_le
  rw [Row.path_len, List.length_append, List.length_singleton] at hl
  have hp1 := h.p1
  have h1 := pre_path e
  have h2 := pre_path e'
  rw [List.length_append, List.length_singleton, pathOf_succ] at h1 h2
  obtain ⟨a1, b1⟩ := snoc_inj h1
  obtain ⟨a2, b2⟩ := snoc_inj h2
  have hk : p.length < 32 := by omega
  have := (path_iff h.n0 h.n1 h'.n0 h'.n1 (k := p.length) (by omega)).mp (a1.symm.trans a2)
  rw [div_qw hk, div_qw hk] at this
  have c1 : bitI r.n p.length = 0 := by
    have : ¬ bitI r.n p.length ≠ 0 := by
      intro hh; unfold bitB at b1; rw [decide_eq_true hh] at b1; cases b1
    exact Decidable.not_not.mp this
  have c2 : bitI r'.n p.length ≠ 0 := by
    intro hh; unfold bitB at b2; rw [decide_eq_false (by simp [hh])] at b2; cases b2
  rw [bitI_eq hk] at c1 c2
  have hq := qw_pos (p.length + 1)
  have h3 := Int.emod_two_eq (r'.n / qw (p.length + 1))
  have hlt : r.n / qw (p.length + 1) < r'.n / qw (p.length + 1) := by omega
  left
  rcases Int.lt_or_le r.n r'.n with h4 | h4
  · exact h4
  · have := Int.ediv_le_ediv hq h4
    omega
theorem pre_sorted {T : Trie} {ws : List (Addr × Row)} (h : Cor T ws) (ok : AllOk ws) : ∀ (n : Nat) {p : Path}, (∀ q ∈ pre T n p, p <+: q.2.path ∧ NetOk q.2.n q.2.p) ∧ (pre T n p).Pairwise fun a b => keyLe a.2 b.2 := by
  have base : ∀ {p : Path}, ∀ q ∈ cts T p, q.2.path = p ∧ NetOk q.2.n q.2.p := fun {p} q hq => by
    obtain ⟨h1, h2⟩ := mem_cts_row h (List.mem_map_of_mem hq)
    obtain ⟨q', hq', e⟩ := List.mem_map.mp h2
    exact ⟨h1, e ▸ (ok q' hq').net⟩
  have basep : ∀ {p : Path}, (cts T p).Pairwise fun a b => keyLe a.2 b.2 := fun {p} => by
    rw [List.pairwise_iff_forall_sublist]
    intro a b hs
    have ha := base a (hs.subset (.head _))
    have hb := base b (hs.subset (.tail _ (.head _)))
    exact key_up ha.2 hb.2 ha.1 (by rw [hb.1]; exact List.prefix_refl _)
  intro n
  induction n with
  | zero => exact fun {p} => ⟨fun q hq => ⟨(base q hq).1 ▸ List.prefix_refl _, (base q hq).2⟩, basep⟩
  | succ n ih =>
    intro p
    obtain ⟨i1, i2⟩ := ih (p := p ++ [false])
    obtain ⟨j1, j2⟩ := ih (p := p ++ [true])
    constructor
    · intro q hq
      show p <+: q.2.path ∧ _
      rcases List.mem_append.mp (show q ∈ cts T p ++ (pre T n (p ++ [false]) ++ pre T n (p ++ [true])) from hq) with hq | hq
      · exact ⟨(base q hq).1 ▸ List.prefix_refl _, (base q hq).2⟩
      · rcases List.mem_append.mp hq with hq | hq
        · exact ⟨pre_snoc (i1 q hq).1, (i1 q hq).2⟩
        · exact ⟨pre_snoc (j1 q hq).1, (j1 q hq).2⟩
    · show (cts T p ++ (pre T n (p ++ [false]) ++ pre T n (p ++ [true]))).Pairwise _
      rw [List.pairwise_append, List.pairwise_append]
      refine ⟨basep, ⟨i2, j2, fun a ha b hb => key_split (i1 a ha).2 (j1 b hb).2 (i1 a ha).1 (j1 b hb).1⟩, fun a ha b hb => ?_⟩
      rcases List.mem_append.mp hb with hb | hb
      · exact key_up (base a ha).2 (i1 b hb).2 (base a ha).1 (pre_snoc (i1 b hb).1)
      · exact key_up (base a ha).2 (j1 b hb).2 (base a ha).1 (pre_snoc (j1 b hb).1)
theorem W_sorted {T : Trie} {ws : List (Addr × Row)} (h : Cor T ws) (ok : AllOk ws) : (rowsOf (W T [])).Pairwise keyLe := by
  unfold rowsOf
  rw [List.pairwise_map]
  exact (pre_sorted h ok 32).2
/-! find -/
noncomputable def betterRow (b : Option Row) (q : Row) : Option Row := match b with
  | none => some q
  | some r => if q.m < r.m then some q else some r
noncomputable def bestRow (rs : List Row) : Option Row := rs.foldl betterRow none
theorem best_row {rs : List (Addr × Row)} {b : Option (Addr × Row)} : (rs.foldl better b).map (·.2) = (rowsOf rs).foldl betterRow (b.map (·.2)) := by
  induction rs generalizing b with
  | nil => rfl
  | cons q rs ih =>
    show (rs.foldl better (better b q)).map (·.2) = (rowsOf rs).foldl betterRow (betterRow (b.map (·.2)) q.2)
    rw [ih]
    congr 1
    cases b with
    | none => rfl
    | some r =>
      show (if q.2.m < r.2.m then some q else some r).map (·.2) = if q.2.m < r.2.m then some q.2 else some r.2
      split <;> rfl
noncomputable def findRow (C : Path → List Row) (a : Int) : Nat → Option Row
  | 0 => bestRow (C [])
  | k + 1 => if C (pathOf a (k + 1)) = [] then findRow C a k else bestRow (C (pathOf a (k + 1)))
theorem find_row {C : Path → List (Addr × Row)} {a : Int} : ∀ k, (findC C a k).map (·.2) = findRow (fun p => rowsOf (C p)) a k
  | 0 => best_row (b := none)
  | k + 1 => by
    rw [findC_succ]
    show _ = if rowsOf (C (pathOf a (k + 1))) = [] then _ else _
    by_cases h : C (pathOf a (k + 1)) = []
    · rw [if_pos h, if_pos (by rw [h]; rfl), find_row k]
    · rw [if_neg h, if_neg (by simpa [rowsOf] using h)]
      exact best_row (b := none)
noncomputable def stepRow (a : Int) (b : Option Row) (q : Row) : Option Row :=
  if q.n / pw q.p = a / pw q.p then (match b with
    | none => some q
    | some r => if r.p < q.p ∨ (q.p = r.p ∧ q.m < r.m) then some q else some r) else b
theorem found_row {a : Int} {ws : List (Addr × Row)} {b : Option (Addr × Row)} : (ws.foldl (stepF a) b).map (·.2) = (rowsOf ws).foldl (stepRow a) (b.map (·.2)) := by
  induction ws generalizing b with
  | nil => rfl
  | cons q rs ih =>
    show (rs.foldl (stepF a) (stepF a b q)).map (·.2) = (rowsOf rs).foldl (stepRow a) (stepRow a (b.map (·.2)) q.2)
    rw [ih]
    congr 1
    unfold stepF stepRow
    by_cases h : q.2.n / pw q.2.p = a / pw q.2.p
    · rw [if_pos h, if_pos h]
      cases b with
      | none => rfl
      | some r =>
        show (if r.2.p < q.2.p ∨ (q.2.p = r.2.p ∧ q.2.m < r.2.m) then some q else some r).map (·.2) = if r.2.p < q.2.p ∨ (q.2.p = r.2.p ∧ q.2.m < r.2.m) then some q.2 else some r.2
        split <;> rfl
    · rw [if_neg h, if_neg h]
noncomputable def at_ (rs : List Row) (p : Path) : List Row := rs.filter fun r => decide (r.path = p)
theorem bestRow_mem {rs : List Row} {b : Option Row} {q : Row} (h : rs.foldl betterRow b = some q) : q ∈ rs ∨ b = some q := by
  induction rs generalizing b with
  | nil => exact .inr h
  | cons r rs ih =>
    rcases ih h with h1 | h1
    · exact .inl (.tail _ h1)
    · cases b with
      | none => simp only [betterRow, Option.some.injEq] at h1; subst h1; exact .inl (.head _)
      | some b =>
        unfold betterRow at h1
        dsimp only at h1
        split at h1
        · simp only [Option.some.injEq] at h1; subst h1; exact .inl (.head _)
        · exact .inr h1
theorem findRow_lvl {rs : List Row} {a : Int} : ∀ {k : Nat} {q : Row}, findRow (at_ rs) a k = some q → q.p.toNat ≤ k ∧ q.path = pathOf a q.p.toNat ∧ findRow (at_ rs) a k = bestRow (at_ rs (pathOf a q.p.toNat)) ∧ ∀ j, q.p.toNat < j → j ≤ k → at_ rs (pathOf a j) = []
  | 0, q, h => by
    have hm : q ∈ at_ rs [] := by
      rcases bestRow_mem (show List.foldl betterRow none (at_ rs []) = some q from h) with h1 | h1
      · exact h1
      · cases h1
    have hp : q.path = [] := by simpa [at_] using (List.mem_filter.mp hm).2
    have h0 : q.p.toNat = 0 := by rw [← Row.path_len, hp]; rfl
    rw [h0]
    exact ⟨Nat.le_refl _, hp, rfl, fun j h1 h2 => by omega⟩
  | k + 1, q, h => by
    unfold findRow at h ⊢
    by_cases hc : at_ rs (pathOf a (k + 1)) = []
    · rw [if_pos hc] at h ⊢
      obtain ⟨h1, h2, h3, h4⟩ := findRow_lvl h
      refine ⟨by omega, h2, h3, fun j h5 h6 => ?_⟩
      by_cases hj : j = k + 1
      · rw [hj]; exact hc
      · exact h4 j h5 (by omega)
    · rw [if_neg hc] at h ⊢
      have hm : q ∈ at_ rs (pathOf a (k + 1)) := by
        rcases bestRow_mem h with h1 | h1
        · exact h1
        · cases h1
      have hp : q.path = pathOf a (k + 1) := by simpa [at_] using (List.mem_filter.mp hm).2
      have h0 : q.p.toNat = k + 1 := by rw [← Row.path_len, hp, pathOf_len]
      rw [h0]
      exact ⟨Nat.le_refl _, hp, rfl, fun j h1 h2 => by omega⟩
theorem findRow_none {rs : List Row} {a : Int} : ∀ {k : Nat}, findRow (at_ rs) a k = none → ∀ j, j ≤ k → at_ rs (pathOf a j) = []
  | 0, h, j, hj => by
    obtain rfl : j = 0 := by omega
    cases e : at_ rs [] with
    | nil => exact e
    | cons x xs =>
      exfalso
      have : ∀ (l : List Row) (b : Row), l.foldl betterRow (some b) ≠ none := by
        intro l
        induction l with
        | nil => intro b h; cases h
        | cons y l ih =>
          intro b h
          show False
          have : betterRow (some b) y = some y ∨ betterRow (some b) y = some b := by unfold betterRow; dsimp only; split <;> simp
          rcases this with e | e
          · exact ih y (by rw [← e]; exact h)
          · exact ih b (by rw [← e]; exact h)
      have h' : bestRow (at_ rs []) = none := h
      rw [e] at h'
      exact this xs x h'
  | k + 1, h, j, hj => by
    unfold findRow at h
    by_cases hc : at_ rs (pathOf a (k + 1)) = []
    · rw [if_pos hc] at h
      by_cases hjk : j = k + 1
      · rw [hjk]; exact hc
      · exact findRow_none h j (by omega)
    · rw [if_neg hc] at h
      exfalso
      obtain ⟨x, xs, e⟩ := List.exists_cons_of_ne_nil hc
      have : ∀ (l : List Row) (b : Row), l.foldl betterRow (some b) ≠ none := by
        intro l
        induction l with
        | nil => intro b h; cases h
        | cons y l ih =>
          intro b h
          have : betterRow (some b) y = some y ∨ betterRow (some b) y = some b := by unfold betterRow; dsimp only; split <;> simp
          rcases this with e | e
          · exact ih y (by rw [← e]; exact h)
          · exact ih b (by rw [← e]; exact h)
      rw [e] at h
      exact this xs x h
theorem findRow_of {C : Path → List Row} {a : Int} {j : Nat} (h : C (pathOf a j) ≠ []) : ∀ {k : Nat}, j ≤ k → (∀ i, j < i → i ≤ k → C (pathOf a i) = []) → findRow C a k = bestRow (C (pathOf a j))
  | 0, hj, _ => by
    obtain rfl : j = 0 := by omega
    rfl
  | k + 1, hj, hn => by
    unfold findRow
    by_cases e : j = k + 1
    · subst e; rw [if_neg h]
    · rw [if_pos (hn (k + 1) (by omega) (Nat.le_refl _))]
      exact findRow_of h (by omega) fun i h1 h2 => hn i h1 (by omega)
theorem findRow_congr {C D : Path → List Row} {a : Int} : ∀ {k : Nat}, (∀ j, j ≤ k → C (pathOf a j) = D (pathOf a j)) → findRow C a k = findRow D a k
  | 0, h => by unfold findRow; rw [show C [] = D [] from h 0 (Nat.le_refl _)]
  | k + 1, h => by
    unfold findRow
    rw [h (k + 1) (Nat.le_refl _), findRow_congr fun j hj => h j (by omega)]
theorem found_find {a : Int} (a0 : 0 ≤ a) (a1 : a ≤ 4294967295) : ∀ (rs : List Row), (∀ r ∈ rs, NetOk r.n r.p) → rs.reverse.foldr (fun q b => stepRow a b q) none = findRow (at_ rs) a 32 := by
  intro rs
  suffices ∀ l : List Row, (∀ r ∈ l, NetOk r.n r.p) → l.foldr (fun q b => stepRow a b q) none = findRow (at_ l.reverse) a 32 by
    intro h
    have := this rs.reverse fun r hr => h r (List.mem_reverse.mp hr)
    rw [List.reverse_reverse] at this
    exact this
  intro l
  induction l with
  | nil =>
    intro _
    show none = findRow (at_ []) a 32
    symm
    cases h : findRow (at_ []) a 32 with
    | none => rfl
    | some q =>
      obtain ⟨_, _, h3, _⟩ := findRow_lvl h
      rw [h] at h3
      cases h3
  | cons q l ih =>
    intro hok
    have hq := hok q (.head _)
    rw [List.foldr_cons, ih fun r hr => hok r (.tail _ hr), List.reverse_cons]
    generalize hb : findRow (at_ l.reverse) a 32 = b
    have app : ∀ p, at_ (l.reverse ++ [q]) p = at_ l.reverse p ++ if q.path = p then [q] else [] := fun p => by
      unfold at_
      rw [List.filter_append]
      congr 1
      by_cases h : q.path = p <;> simp [List.filter, h]
    have hp0 := hq.p0
    have hp1 := hq.p1
    unfold stepRow
    by_cases hh : q.n / pw q.p = a / pw q.p
    · rw [if_pos hh]
      have hpath := (hit_iff hq a0 a1).mp hh
      have hself : at_ (l.reverse ++ [q]) (pathOf a q.p.toNat) = at_ l.reverse (pathOf a q.p.toNat) ++ [q] := by rw [app, if_pos hpath]
      have hother : ∀ j, j ≠ q.p.toNat → at_ (l.reverse ++ [q]) (pathOf a j) = at_ l.reverse (pathOf a j) := fun j hj => by
        rw [app, if_neg, List.append_nil]
        intro e
        apply hj
        have := congrArg List.length e
        rw [Row.path_len, pathOf_len] at this
        exact this.symm
      have hne : at_ (l.reverse ++ [q]) (pathOf a q.p.toNat) ≠ [] := by rw [hself]; simp
      cases b with
      | none =>
        have hn := findRow_none hb
        rw [findRow_of hne (by omega) fun i h1 h2 => by rw [hother i (by omega)]; exact hn i h2]
        rw [hself, hn _ (by omega)]; rfl
      | some r =>
        obtain ⟨h1, h2, h3, h4⟩ := findRow_lvl hb
        rw [hb] at h3
        have hrne : at_ l.reverse (pathOf a r.p.toNat) ≠ [] := by
          intro e; rw [e] at h3; cases h3
        have hrp : 0 ≤ r.p := by
          rcases bestRow_mem h3.symm with hm | hm
          · have := (List.mem_filter.mp hm).1
            exact (hok r (.tail _ (List.mem_reverse.mp this))).p0
          · cases hm
        by_cases c1 : r.p < q.p
        · show (if r.p < q.p ∨ (q.p = r.p ∧ q.m < r.m) then some q else some r) = _
          rw [if_pos (.inl c1)]
          rw [findRow_of hne (by omega) fun i g1 g2 => by rw [hother i (by omega)]; exact h4 i (by omega) g2]
          rw [hself, h4 _ (by omega) (by omega)]; rfl
        · by_cases c2 : q.p = r.p
          · show (if r.p < q.p ∨ (q.p = r.p ∧ q.m < r.m) then some q else some r) = _
            rw [findRow_of hne (by omega) fun i g1 g2 => by rw [hother i (by omega)]; exact h4 i (by omega) g2]
            rw [hself]
            unfold bestRow
            rw [List.foldl_append]
            have e : List.foldl betterRow none (at_ l.reverse (pathOf a q.p.toNat)) = some r := by rw [c2]; exact h3.symm
            rw [e]
            show _ = if q.m < r.m then some q else some r
            by_cases c3 : q.m < r.m
            · rw [if_pos (.inr ⟨c2, c3⟩), if_pos c3]
            · rw [if_neg (by rintro (h | ⟨_, h⟩); exact c1 h; exact c3 h), if_neg c3]
          · show (if r.p < q.p ∨ (q.p = r.p ∧ q.m < r.m) then some q else some r) = _
            rw [if_neg (by rintro (h | ⟨h, _⟩); exact c1 h; exact c2 h)]
            have hrr : at_ (l.reverse ++ [q]) (pathOf a r.p.toNat) ≠ [] := by rw [hother _ (by omega)]; exact hrne
            rw [findRow_of hrr h1 fun i g1 g2 => by rw [hother i (by omega)]; exact h4 i g1 g2]
            rw [hother _ (by omega)]; exact h3
    · rw [if_neg hh, ← hb]
      refine findRow_congr fun j _ => ?_
      rw [app, if_neg, List.append_nil]
      intro e
      apply hh
      rw [hit_iff hq a0 a1]
      have := congrArg List.length e
      rw [Row.path_len, pathOf_len] at this
      rw [this]; exact e
theorem find_law {T : Trie} {ws : List (Addr × Row)} (h : Cor T ws) (ok : AllOk ws) {a : Int} (a0 : 0 ≤ a) (a1 : a ≤ 4294967295) : (findC (cts T) a 32).map (·.2) = (foundW a ws).map (·.2) := by
  rw [find_row, show (fun p => rowsOf (cts T p)) = at_ (rowsOf ws) from funext h]
  unfold foundW
  rw [found_row, ← found_find a0 a1 (rowsOf ws) fun r hr => by obtain ⟨q, hq, e⟩ := List.mem_map.mp hr; exact e ▸ (ok q hq).net]
  rw [List.foldr_reverse]; rfl
end Mine
end

section
open PySem PySem.W PyProof.Rows PySem.Spec PySem.Calls
namespace Mine

theorem t_changed (G : GP) : TopFn G (S "_law_changed") 323 := ⟨by k_is, by k_is⟩
structure WI (σ : AH) (s R root rl : Addr) (T : Trie) (ws : List (Addr × Row)) : Prop where
  src : Src σ s
  rows : RowsOk σ s rl ws
  at_ : σ R = some (.routes (.ref root) ws.length)
  trie : TrieAt σ T root
  cor : Cor T ws
  offS : ∀ p nd, T p = some nd → s ≠ nd.l
  offR : ∀ p nd, T p = some nd → rl ≠ nd.l
noncomputable def ExtC (s : Addr) (σ τ : AH) : Prop := (∀ x o, x ≠ s → σ x = some o → (∀ v, o ≠ .cell v) → τ x = some o) ∧ Src τ s ∧ Dom σ τ
theorem Ext.c {s : Addr} {σ τ : AH} (h : Ext s σ τ) : ExtC s σ τ := ⟨fun x o hx e _ => h.1 x o hx e, h.2⟩
theorem Src.notCell {σ : AH} {s : Addr} (h : Src σ s) {v : Option Value} : σ s ≠ some (.cell v) := by
  obtain ⟨a, b, h1, _⟩ := h
  rw [h1]; simp
theorem ExtC.cell {s x : Addr} {σ : AH} {v v' : Option Value} (hs : Src σ s) (h : σ x = some (.cell v)) : ExtC s σ (upd σ x (.cell v')) := by
  have hx : s ≠ x := fun e => hs.notCell (e ▸ h)
  refine ⟨fun y o hy e hc => ?_, ?_, .upd⟩
  · rw [upd_other]; exact e
    rintro rfl; rw [h] at e; cases e; exact hc _ rfl
  · obtain ⟨a, b, h1, h2⟩ := hs
    exact ⟨a, b, by rw [upd_other hx]; exact h1, h2⟩
theorem WI.tupNe {σ : AH} {s R root rl : Addr} {T : Trie} {ws : List (Addr × Row)} (I : WI σ s R root rl T ws) {q : Addr × Row} (hq : q ∈ ws) : q.1 ≠ s := fun e => by
  have := I.rows.tups q hq
  obtain ⟨a, b, h1, _⟩ := I.src
  rw [e, h1] at this; cases this
theorem WI.RNe {σ : AH} {s R root rl : Addr} {T : Trie} {ws : List (Addr × Row)} (I : WI σ s R root rl T ws) : R ≠ s := fun e => by
  obtain ⟨a, b, h1, _⟩ := I.src
  have := I.at_
  rw [e, h1] at this; cases this
theorem WI.ext {σ τ : AH} {s R root rl : Addr} {T : Trie} {ws : List (Addr × Row)} (I : WI σ s R root rl T ws) (E : ExtC s σ τ) : WI τ s R root rl T ws := by
  obtain ⟨a, b, hs, _⟩ := I.src
  refine ⟨E.2.1, ⟨E.1 _ _ I.rows.ne I.rows.at_ (by simp), fun q hq => E.1 _ _ (I.tupNe hq) (I.rows.tups q hq) (by simp [Row.tup]), I.rows.ok, I.rows.len, I.rows.ne⟩, E.1 _ _ I.RNe I.at_ (by simp), I.trie.ext fun x o e ⟨p, nd, hp, hx⟩ => ?_, I.cor, I.offS, I.offR⟩
  rcases hx with rfl | rfl | ⟨q, hq, rfl⟩
  · have := I.trie.node _ _ hp
    refine E.1 _ _ (fun e' => ?_) e (fun v h => ?_)
    · rw [e', hs] at this; cases this
    · rw [e, h] at this; cases this
  · have := I.trie.lst _ _ hp
    refine E.1 _ _ (fun e' => I.offS _ _ hp e'.symm) e (fun v h => ?_)
    rw [e, h] at this; cases this
  · have := I.trie.rts _ _ hp q hq
    refine E.1 _ _ (fun e' => ?_) e (fun v h => ?_)
    · rw [e', hs] at this; cases this
    · rw [e, h] at this; cases this
theorem Src.fram {σ τ : AH} {s R root : Addr} {T T' : Trie} {m : Int} (h : Src σ s) (hR : R ≠ s) (hoff : ∀ p nd, T p = some nd → s ≠ nd.l) (M : Mut σ T R root τ T' m) : Src τ s := by
  obtain ⟨a, b, h1, h2⟩ := h
  exact ⟨a, b, M.fram _ _ h1 rfl (Ne.symm hR) hoff, h2⟩
theorem RowsOk.fram {σ τ : AH} {s R root rl : Addr} {T T' : Trie} {m : Int} {ws : List (Addr × Row)} (h : RowsOk σ s rl ws) (hT : TrieAt σ T root) {m0 : Int} (hR : σ R = some (.routes (.ref root) m0)) (hoff : ∀ p nd, T p = some nd → rl ≠ nd.l) (M : Mut σ T R root τ T' m) : RowsOk τ s rl ws :=
  ⟨M.fram _ _ h.at_ rfl (fun e => by have := h.at_; rw [e, hR] at this; cases this) hoff, fun q hq => M.fram _ _ (h.tups q hq) rfl (fun e => by have := h.tups q hq; rw [e, hR] at this; cases this) (fun p nd hp e => by have := h.tups q hq; rw [e, hT.lst _ _ hp] at this; cases this), h.ok, h.len, h.ne⟩
theorem WI.mut {σ τ : AH} {s R root rl rl' : Addr} {T T' : Trie} {ws ws' : List (Addr × Row)} {m : Int} (I : WI σ s R root rl T ws) (M : Mut σ T R root τ T' m) (hm : m = ws'.length) (hc : Cor T' ws') (hr : RowsOk τ s rl' ws') (hoff : ∀ p nd, T p = some nd → rl' ≠ nd.l) (hne : σ rl' ≠ none) : WI τ s R root rl' T' ws' := by
  obtain ⟨a, b, hs, _⟩ := I.src
  refine ⟨I.src.fram I.RNe I.offS M, hr, by rw [M.at_, hm], M.trie, hc, fun p nd h e => ?_, fun p nd h e => ?_⟩
  · rcases M.lsub _ _ h with ⟨q, nd', h1, h2⟩ | h1
    · exact I.offS _ _ h1 (e.trans h2.symm)
    · rw [← e, hs] at h1; cases h1
  · rcases M.lsub _ _ h with ⟨q, nd', h1, h2⟩ | h1
    · exact hoff _ _ h1 (e.trans h2.symm)
    · rw [← e] at h1; exact hne h1
theorem clos2 {scope : Scope} {env : Env} {x x' : PySem.Str} {a a' : Addr} {y z : PySem.Str × NameKind} (h : scope.names = [y, z, (x, .free), (x', .free)]) (hy : (y.2 == NameKind.free) = false) (hz : (z.2 == NameKind.free) = false) (hc : env.cells.lookup x = some a) (hc' : env.cells.lookup x' = some a') : closureFor scope env = pure [(x', a'), (x, a)] := by
  unfold closureFor
  rw [h]
  obtain ⟨y1, y2⟩ := y
  obtain ⟨z1, z2⟩ := z
  simp only at hy hz
  simp only [List.forIn_cons, List.forIn_nil, hy, hz, cellOf, hc, hc']
  rfl
theorem relabel_cell {c : FC} {scope : Scope} {cl : List (PySem.Str × Addr)} {C : Addr} {x : PySem.Str} (hk : c.cs.kind = .function) (hx : c.cs.names.lookup x = some .cell) (h : scope.names.lookup x = some .free) : (compEnvC scope cl C c.env).kindOf x = some .cell := by
  unfold Env.kindOf compEnvC relabel
  simp only
  generalize scope.names = ns at h ⊢
  induction ns with
  | nil => cases h
  | cons y ns ih =>
    obtain ⟨y1, y2⟩ := y
    simp only [List.map_cons]
    by_cases hy : x == y1
    · have hy' : x = y1 := by simpa using hy
      subst hy'
      rw [List.lookup_cons, hy] at h
      simp only [Option.some.injEq] at h
      subst h
      have : (c.env.scope.kind == ScopeKind.function) = true := by show (c.cs.kind == _) = true; rw [hk]; rfl
      have h2 : (c.env.kindOf x == some NameKind.cell) = true := by show (c.cs.names.lookup x == _) = true; rw [hx]; rfl
      show List.lookup x ((if (NameKind.free == NameKind.free && c.env.scope.kind == ScopeKind.function && c.env.kindOf x == some NameKind.cell) = true then (x, NameKind.cell) else (x, NameKind.free)) :: _) = _
      rw [this, h2]
      simp
    · rw [List.lookup_cons] at h
      simp only [hy] at h
      have e : ∀ k, List.lookup x ((y1, k) :: (ns.map fun (n, k) => if (k == NameKind.free && c.env.scope.kind == ScopeKind.function && c.env.kindOf n == some NameKind.cell) = true then (n, NameKind.cell) else (n, k))) = List.lookup x (ns.map fun (n, k) => if (k == NameKind.free && c.env.scope.kind == ScopeKind.function && c.env.kindOf n == some NameKind.cell) = true then (n, NameKind.cell) else (n, k)) := fun k => by
        rw [List.lookup_cons]; simp only [hy]
      split
      · rw [e]; exact ih h
      · rw [e]; exact ih h
theorem swaps_true {c : FC} {elt : Expr} {gens : List Comprehension} {scope : Scope} {pos py : Pos} {line : Nat} {y : PySem.Str} (hk : c.cs.kind = .function) (hy : c.cs.names.lookup y = some .local) (hl : (py.line == pos.line) = true) (hn : (scope.names.any fun (n, k) => n == y && (k == .local || k == .cell)) = false) :
    swapsWith (.ListComp elt gens scope pos) (some (.Name y py)) line c.env = pure true := by
  show (pure (c.env.blockKind == .function && c.env.kindOf y == some .local && py.line == pos.line && !(scope.names.any fun (n, k) => n == y && (k == .local || k == .cell))) : Sem Bool) = _
  have h1 : (c.env.blockKind == .function) = true := by unfold Env.blockKind; show ((if c.cs.kind.isAnnotationScope then ScopeKind.function else c.cs.kind) == .function) = true; rw [hk]; rfl
  have h2 : (c.env.kindOf y == some .local) = true := by show (c.cs.names.lookup y == _) = true; rw [hy]; rfl
  rw [h1, h2, hl, hn]; rfl
noncomputable def laterN (n p : Int) (ws : List (Addr × Row)) : List (Addr × Row) := ws.filter fun q => !((q.2.n == n) && ((q.2.p == p) && true))
noncomputable def changedS : SpecT := fun vs σ Q => ∃ (s R root rl : Addr) (T : Trie) (ws : List (Addr × Row)), vs = [.ref s, .ref R, .ref rl] ∧ WI σ s R root rl T ws ∧ ws.length ≤ 90 ∧
  ∀ τ rl' T' ws', WI τ s R root rl' T' ws' → ws'.length ≤ ws.length + 1 → Q (.ref rl') τ
theorem v_changed (G : GP) : Valid G (.ref 323) 6 changedS := by
  refine valid_defC (n := 5) [S "source", S "routes", S "rows"] [S "source", S "routes", S "rows", S "way", S "row", S "later"] [S "_law_take", S "_law_net", S "_law_one", S "len", S "_law_route", S "Route", S "_law_put"] (fun vs => [vs[0]?, vs[1]?, vs[2]?, none, none, none]) (fun _ _ => none) (by k_is) (by k_is) ?_ ?_ rfl rfl rfl ?_ ?_ ?_ ?_ ?_ ?_ ?_ ?_
  · rintro vs σ Q ⟨s, R, root, rl, T, ws, rfl, I, hz, hQ⟩; rfl
  · intro us hl
    rcases us with _ | ⟨u0, _ | ⟨u1, _ | ⟨u2, _ | ⟨u3, us⟩⟩⟩⟩ <;> first | (exfalso; simp at hl; done) | rfl
  · intro us hl
    rcases us with _ | ⟨u0, _ | ⟨u1, _ | ⟨u2, _ | ⟨u3, us⟩⟩⟩⟩ <;> first | (exfalso; simp at hl; done) | rfl
  · decide +kernel
  · intro us hl
    rcases us with _ | ⟨u0, _ | ⟨u1, _ | ⟨u2, _ | ⟨u3, us⟩⟩⟩⟩ <;> first | (exfalso; simp at hl; done) | skip
    intro i x hx v hv
    rcases i with _ | _ | _ | _ | _ | _ | i <;> simp at hv hx
    · subst hx hv; exact ⟨u0, rfl, rfl⟩
    · subst hx hv; exact ⟨u1, rfl, rfl⟩
    · subst hx hv; exact ⟨u2, rfl, rfl⟩
  · intro us hl x
    rcases us with _ | ⟨u0, _ | ⟨u1, _ | ⟨u2, _ | ⟨u3, us⟩⟩⟩⟩ <;> first | (exfalso; simp at hl; done) | skip
    rfl
  · decide +kernel
  · decide +kernel
  · decide +kernel
  · rintro c L' O hnm hgl hcs hcl vs σ Q ⟨s, R, root, rl, T, ws, rfl, I, hz, hQ⟩ hfresh
    show JX G c _ _ (execs (_ :: _) c.env) _ _
    have l0 : LocAt c 0 (S "source") := by unfold LocAt; rw [hnm]; rfl
    have l1 : LocAt c 1 (S "routes") := by unfold LocAt; rw [hnm]; rfl
    have l2 : LocAt c 2 (S "rows") := by unfold LocAt; rw [hnm]; rfl
    have l3 : LocAt c 3 (S "way") := by unfold LocAt; rw [hnm]; rfl
    have l4 : LocAt c 4 (S "row") := by unfold LocAt; rw [hnm]; rfl
    have l5 : LocAt c 5 (S "later") := by unfold LocAt; rw [hnm]; rfl
    have g0 : GlAt c (S "_law_take") := by unfold GlAt; rw [hgl]; simp
    have g1 : GlAt c (S "_law_net") := by unfold GlAt; rw [hgl]; simp
    have g2 : GlAt c (S "_law_one") := by unfold GlAt; rw [hgl]; simp
    have g3 : GlAt c (S "len") := by unfold GlAt; rw [hgl]; simp
    have g4 : GlAt c (S "_law_route") := by unfold GlAt; rw [hgl]; simp
    have g5 : GlAt c (S "Route") := by unfold GlAt; rw [hgl]; simp
    have g6 : GlAt c (S "_law_put") := by unfold GlAt; rw [hgl]; simp
    have hcl1 : c.cl = [(S "face", L' + 1 + 1), (S "prefix", L' + 1), (S "net", L')] := hcl
    rw [hcl1] at hfresh ⊢
    obtain ⟨cF, hcF⟩ : ∃ x : Addr, x = L' + 1 + 1 := ⟨_, rfl⟩
    obtain ⟨cP, hcP⟩ : ∃ x : Addr, x = L' + 1 := ⟨_, rfl⟩
    obtain ⟨cN, hcN⟩ : ∃ x : Addr, x = L' := ⟨_, rfl⟩
    have nFP : cF ≠ cP := by rw [hcF, hcP]; exact Nat.succ_ne_self _
    have nFN : cF ≠ cN := by rw [hcF, hcN]; exact fun e => Nat.ne_of_gt (Nat.lt_succ_of_lt (Nat.lt_succ_self _)) e
    have nPN : cP ≠ cN := by rw [hcP, hcN]; exact Nat.succ_ne_self _
    rw [← hcF, ← hcP, ← hcN] at hfresh hcl1 ⊢
    clear hcF hcP hcN
    have fF : σ cF = none := hfresh _ (.head _)
    have fP : σ cP = none := hfresh _ (.tail _ (.head _))
    have fN : σ cN = none := hfresh _ (.tail _ (.tail _ (.head _)))
    have kF : c.cl.lookup (S "face") = some cF := by rw [hcl1]; rfl
    have kP : c.cl.lookup (S "prefix") = some cP := by rw [hcl1]; rfl
    have kN : c.cl.lookup (S "net") = some cN := by rw [hcl1]; rfl
    have xF : c.cs.names.lookup (S "face") = some .cell := by rw [hcs]; rfl
    have xP : c.cs.names.lookup (S "prefix") = some .cell := by rw [hcs]; rfl
    have xN : c.cs.names.lookup (S "net") = some .cell := by rw [hcs]; rfl
    have xL : c.cs.names.lookup (S "later") = some .local := by rw [hcs]; rfl
    show JX G c [some (.ref s), some (.ref R), some (.ref rl), none, none, none] (upd (upd (upd σ cN (.cell none)) cP (.cell none)) cF (.cell none)) _ _ _
    have sb : Sub σ (upd (upd (upd σ cN (.cell none)) cP (.cell none)) cF (.cell none)) := Sub.trans (Sub.upd fN) (Sub.trans (Sub.upd (by rw [upd_other nPN]; exact fP)) (Sub.upd (by rw [upd_other nFP, upd_other nFN]; exact fF)))
    have I0 := I.ext (Ext.of_sub sb I.src).c
    have dN : upd (upd (upd σ cN (.cell none)) cP (.cell none)) cF (.cell none) cN = some (.cell none) := by rw [upd_other (Ne.symm nFN), upd_other (Ne.symm nPN), upd_self]
    have dP : upd (upd (upd σ cN (.cell none)) cP (.cell none)) cF (.cell none) cP = some (.cell none) := by rw [upd_other (Ne.symm nFP), upd_self]
    have dF : upd (upd (upd σ cN (.cell none)) cP (.cell none)) cF (.cell none) cF = some (.cell none) := upd_self
    generalize upd (upd (upd σ cN (.cell none)) cP (.cell none)) cF (.cell none) = σ1 at I0 dN dP dF ⊢
    clear sb fF fP fN hfresh I
    have cne : ∀ {υ : AH} {x : Addr} {v : Option Value}, Src υ s → υ x = some (.cell v) → x ≠ s := fun h1 h2 e => h1.notCell (e ▸ h2)
    refine js_cons (js_assign O l3 ?_)
    refine je_call O g0 (t_take G) (v_take G) (by decide) ?_
    refine ja_cons (je_loc O l0 rfl (ja_cons (je_int (ja_nil ?_))))
    refine ⟨s, 4, rfl, by decide, by decide, I0.src, fun way σ2 _ _ hE _ => ?_⟩
    have I1 := I0.ext hE.c
    have dN1 := hE.1 _ _ (cne I0.src dN) dN
    have dP1 := hE.1 _ _ (cne I0.src dP) dP
    have dF1 := hE.1 _ _ (cne I0.src dF) dF
    clear hE I0 dN dP dF
    refine js_cons (js_if (jt_cmp (je_loc O l3 rfl (je_int (jc_eq (asB ⟨fun _ => ?_, fun _ => js_nil ?_⟩))))))
    · refine js_cons (js_assign_tup ?_)
      refine je_call O g1 (t_net G) (v_net G) (by decide) ?_
      refine ja_cons (je_loc O l0 rfl (ja_nil ?_))
      refine ⟨s, rfl, I1.src, fun t σ3 n p ht hts hv hok hE => ?_⟩
      have I2 := I1.ext hE.c
      have dN2 := hE.1 _ _ (cne I1.src dN1) dN1
      have dP2 := hE.1 _ _ (cne I1.src dP1) dP1
      refine jas_tup2 hv (jas_cell O kN dN2 (jas_cell O kP (by rw [upd_other nPN]; exact dP2) ?_ xP) xN)
      have E1 := ExtC.cell (v' := some (vi n)) I2.src dN2
      have I3 := I2.ext E1
      have dP3 : upd σ3 cN (.cell (some (vi n))) cP = some (.cell none) := by rw [upd_other nPN]; exact dP2
      have E2 := ExtC.cell (v' := some (vi p)) I3.src dP3
      have I4 := I3.ext E2
      have dN4 : upd (upd σ3 cN (.cell (some (vi n)))) cP (.cell (some (vi p))) cN = some (.cell (some (vi n))) := by rw [upd_other (Ne.symm nPN), upd_self]
      have dP4 : upd (upd σ3 cN (.cell (some (vi n)))) cP (.cell (some (vi p))) cP = some (.cell (some (vi p))) := upd_self
      generalize upd (upd σ3 cN (.cell (some (vi n)))) cP (.cell (some (vi p))) = σ4 at I4 dN4 dP4 ⊢
      clear E1 E2 I3 dP3 I2 dN2 dP2 hE hv hts ht I1 dN1 dP1 dF1
      refine js_seq (fun ρ τ => ρ = [some (.ref s), some (.ref R), some (.ref rl), some (vi way), none, none] ∧ ∃ n p, WI τ s R root rl T ws ∧ NetOk n p ∧ τ cN = some (.cell (some (vi n))) ∧ τ cP = some (.cell (some (vi p)))) ?_ ?_
      · refine js_if (jt_bool (jal_and (jt_cmp (je_loc O l2 rfl (je_list (ja_nil ⟨by decide, fun g hg => ?_⟩))))))
        refine jc_ne_nil O (Sub.upd hg _ _ I4.rows.at_) upd_self ?_
        have E := Ext.of_sub (Sub.upd (o := .list []) hg) I4.src
        have I5 := I4.ext E.c
        have dN5 := E.1 _ _ (cne I4.src dN4) dN4
        have dP5 := E.1 _ _ (cne I4.src dP4) dP4
        generalize upd σ4 g (.list []) = σ5 at I5 dN5 dP5 E ⊢
        refine asB ⟨fun hb => ?_, fun hb => ⟨fun h => (by cases h), fun _ => js_nil ⟨rfl, n, p, I5, hok, dN5, dP5⟩⟩⟩
        have hne : ws ≠ [] := by rintro rfl; cases hb
        refine jal_and (jt_cmp ?_)
        refine je_call O g0 (t_take G) (v_take G) (by decide) ?_
        refine ja_cons (je_loc O l0 rfl (ja_cons (je_int (ja_nil ?_))))
        refine ⟨s, 3, rfl, by decide, by decide, I5.src, fun r σ6 _ _ hE _ => ?_⟩
        have I6 := I5.ext hE.c
        have dN6 := hE.1 _ _ (cne I5.src dN5) dN5
        have dP6 := hE.1 _ _ (cne I5.src dP5) dP5
        refine je_int (jc_gt (asB ⟨fun hc => jal_and0 ⟨fun _ => ?_, fun h => (by cases h)⟩, fun hc => ⟨fun h => (by cases h), fun _ => js_nil ⟨rfl, n, p, I6, hok, dN6, dP6⟩⟩⟩))
        refine js_cons (js_assign_tup (je_slice ?_))
        refine je_call O g2 (t_one G) (v_one G) (by decide) ?_
        refine ja_cons (je_loc O l0 rfl (ja_cons (je_loc O l2 rfl (ja_nil ?_))))
        refine ⟨s, rl, _, rfl, I6.rows.at_, by simpa [refs] using hne, by unfold refs; rw [List.length_map]; omega, I6.rows.ne, I6.src, fun w σ7 hw hE7 _ => ?_⟩
        obtain ⟨q, hq, rfl⟩ := List.mem_map.mp hw
        have I7 := I6.ext hE7.c
        have dN7 := hE7.1 _ _ (cne I6.src dN6) dN6
        have dP7 := hE7.1 _ _ (cne I6.src dP6) dP6
        refine jp_none (jp_some (je_int ?_))
        refine jsl_tup (k := 2) (I7.rows.tups q hq) (by simp [Row.is]) (by simp [Row.is]) fun t2 ht2 => ?_
        have E8 := Ext.of_sub (Sub.upd (o := .tup ((q.2.is.map vi).take 2)) ht2) I7.src
        have I8 := I7.ext E8.c
        have dN8 := E8.1 _ _ (cne I7.src dN7) dN7
        have dP8 := E8.1 _ _ (cne I7.src dP7) dP7
        have hself : (upd σ7 t2 (.tup ((q.2.is.map vi).take 2))) t2 = some (.tup [vi q.2.n, vi q.2.p]) := upd_self
        generalize upd σ7 t2 (.tup ((q.2.is.map vi).take 2)) = σ8 at I8 dN8 dP8 hself ⊢
        refine jas_tup2 hself (jas_cell O kN dN8 (jas_cell O kP (by rw [upd_other nPN]; exact dP8) ?_ xP) xN)
        have I9 := I8.ext (ExtC.cell (v' := some (vi q.2.n)) I8.src dN8)
        have I10 := I9.ext (ExtC.cell (v' := some (vi q.2.p)) I9.src (by rw [upd_other nPN]; exact dP8))
        exact js_nil ⟨rfl, q.2.n, q.2.p, I10, (I8.rows.ok q hq).net, by rw [upd_other (Ne.symm nPN), upd_self], upd_self⟩
      clear I4 dN4 dP4 hok
      rintro ρ τ ⟨rfl, n, p, I, hok, dN, dP⟩
      refine js_cons (js_assign_listcomp O l5 (swaps_true O.kind xL rfl rfl) (clos2 rfl rfl rfl kN kP) (by decide +kernel) rfl (by decide +kernel) rfl ?_)
      refine je_loc O l2 rfl ⟨rl, refs ws, fun i ys υ => υ = τ ∧ ys = refs (laterN n p (ws.take i)), rfl, by rw [List.length_map]; omega, ⟨rfl, rfl⟩, fun i ys υ h => by rw [h.1]; exact I.rows.at_, ?_, ?_⟩
      · rintro i ys υ w hwi ⟨rfl, rfl⟩ C oC mm u hC ho hm eu
        rw [List.getElem?_map] at hwi
        cases hr : ws[i]? with
        | none => rw [hr] at hwi; cases hwi
        | some q =>
        rw [hr] at hwi
        cases hwi
        have hqm : q ∈ ws := List.mem_of_getElem? hr
        have up : Sub υ (upd υ C (.raw oC)) := Sub.upd hC
        have hk1 : laterN n p (ws.take (i + 1)) = laterN n p (ws.take i) ++ if !((q.2.n == n) && ((q.2.p == p) && true)) then [q] else [] := by
          unfold laterN
          rw [List.take_add_one, hr, List.filter_append]
          show _ ++ List.filter _ [q] = _
          congr 1
          by_cases h : (!((q.2.n == n) && ((q.2.p == p) && true))) = true <;> simp only [List.filter, h] <;> simp
        refine jt_tests_one (jt_cmp (je_slice (je_cloc upd_self ho hm eu ?_ rfl rfl rfl)))
        refine jp_none (jp_some (je_int ?_))
        refine jsl_tup (k := 2) (up _ _ (I.rows.tups q hqm)) (by simp [Row.is]) (by simp [Row.is]) fun d1 hd1 => ?_
        have s1 : Sub (upd υ C (.raw oC)) (upd (upd υ C (.raw oC)) d1 (.tup ((q.2.is.map vi).take 2))) := Sub.upd hd1
        have hC1 : upd (upd υ C (.raw oC)) d1 (.tup ((q.2.is.map vi).take 2)) C = some (.raw oC) := s1 _ _ upd_self
        refine je_tuple (ja_cons (je_ccell rfl (s1 _ _ (up _ _ dN)) ?_ rfl (relabel_cell O.kind xN rfl) rfl))
        refine ja_cons (je_ccell rfl (s1 _ _ (up _ _ dP)) ?_ rfl (relabel_cell O.kind xP rfl) rfl)
        refine ja_nil ⟨by simp, fun d2 hd2 => ?_⟩
        have s2 : Sub (upd (upd υ C (.raw oC)) d1 (.tup ((q.2.is.map vi).take 2))) (upd (upd (upd υ C (.raw oC)) d1 (.tup ((q.2.is.map vi).take 2))) d2 (.tup [vi n, vi p])) := Sub.upd hd2
        refine jc_neD O (.tup (is := [q.2.n, q.2.p]) (s2 _ _ upd_self)) (.tup (is := [n, p]) upd_self) rfl rfl ?_
        show ∃ q', Value.bool (!((q.2.n == n) && ((q.2.p == p) && true))) = .bool q' ∧ _
        refine asB ⟨fun hg => ?_, fun hg => ⟨υ, hC, Sub.trans s1 s2, rfl, ?_⟩⟩
        · refine je_cloc (s2 _ _ hC1) ho hm eu ?_ rfl rfl rfl
          refine ⟨υ, hC, Sub.trans s1 s2, rfl, ?_⟩
          rw [hk1, if_pos hg]; unfold refs; rw [List.map_append]; rfl
        · rw [hk1, if_neg (by rw [hg]; simp), List.append_nil]
      rintro υ ys ⟨rfl, rfl⟩ d hd
      rw [List.length_map, List.take_length]
      have hws' : (laterN n p ws).length ≤ ws.length := List.length_filter_le _ _
      have EI := Ext.of_sub (Sub.upd (o := .list (refs (laterN n p ws))) hd) I.src
      have I5 := I.ext EI.c
      have hds := I.src.ne hd
      have dN5 := EI.1 _ _ (cne I.src dN) dN
      have dP5 := EI.1 _ _ (cne I.src dP) dP
      have hoffd : ∀ q nd, T q = some nd → d ≠ nd.l := fun q nd h => (I.trie.fresh hd h).2.1
      have hR5 : RowsOk (upd υ d (.list (refs (laterN n p ws)))) s d (laterN n p ws) := ⟨upd_self, fun q hq => I5.rows.tups q (List.mem_filter.mp hq).1, fun q hq => I5.rows.ok q (List.mem_filter.mp hq).1, by have := I.rows.len; omega, hds⟩
      generalize upd υ d (.list (refs (laterN n p ws))) = σ5 at I5 dN5 dP5 hR5 ⊢
      refine js_cons (js_ret (je_if (jt_cmp ?_)))
      refine je_meth (C := 244) (ns := nRoutes) O (m_remove G) (v_remove G) (by decide) ?_
      refine je_loc O l1 rfl ⟨R, _, _, rfl, I5.at_, rfl, rfl, rfl, ?_⟩
      refine ja_cons (je_cell O kN dN5 (ja_cons (je_cell O kP dP5 (ja_nil ?_) xP rfl)) xN rfl)
      refine ⟨R, root, _, n, p, T, rfl, I5.at_, I5.trie, hok.n0, hok.n1, hok.p0, hok.p1, hok.net, Nat.le_trans (I5.cor.len _) (by omega), fun σ6 T' M hT' => ?_⟩
      have hlen := remove_len I5.cor I5.rows.ok hok
      have hcor := cor_remove I5.cor I5.rows.ok hok hT'
      have hR6 : RowsOk σ6 s d (laterN n p ws) := hR5.fram I5.trie I5.at_ hoffd M
      have hRr : RowsOk σ6 s rl ws := I5.rows.fram I5.trie I5.at_ I5.offR M
      have WF : WI σ6 s R root d T' (laterN n p ws) := I5.mut M (by unfold laterN; omega) hcor hR6 hoffd (by rw [hR5.at_]; simp)
      refine je_bin ?_
      refine je_len O g3 (b_len G) (je_loc O l2 rfl ⟨rl, _, rfl, hRr.at_, by rw [List.length_map]; omega, ?_⟩)
      refine je_len O g3 (b_len G) (je_loc O l5 rfl ⟨d, _, rfl, hR6.at_, by rw [List.length_map]; omega, ?_⟩)
      rw [List.length_map, List.length_map]
      refine jb_sub (jc_eq (asB ⟨fun _ => je_loc O l5 rfl (hQ σ6 d T' _ WF (by omega)), fun hb => ?_⟩))
      exfalso
      have : ¬ ((cts T (pathOf n p.toNat)).length : Int) = (ws.length : Int) - ((laterN n p ws).length : Int) := by simpa using hb
      apply this
      unfold laterN; omega
    refine js_cons (js_if (jt_cmp (je_loc O l3 rfl (je_int (jc_eq (asB ⟨fun _ => ?_, fun _ => js_nil ?_⟩))))))
    · refine js_cons (js_assign_cell O kF xF ?_)
      refine je_call O g0 (t_take G) (v_take G) (by decide) ?_
      refine ja_cons (je_loc O l0 rfl (ja_cons (je_int (ja_nil ?_))))
      refine ⟨s, 2, rfl, by decide, by decide, I1.src, fun f σ3 _ _ hE _ => ?_⟩
      have I2 := I1.ext hE.c
      have dF2 := hE.1 _ _ (cne I1.src dF1) dF1
      refine ⟨_, dF2, ?_⟩
      have I := I2.ext (ExtC.cell (v' := some (vi f)) I2.src dF2)
      have dF : upd σ3 cF (.cell (some (vi f))) cF = some (.cell (some (vi f))) := upd_self
      generalize upd σ3 cF (.cell (some (vi f))) = τ at I dF ⊢
      clear I2 dF2 hE I1 dN1 dP1 dF1
      refine js_cons (js_assign_listcomp O l5 (swaps_true O.kind xL rfl rfl) (clos1 rfl rfl rfl kF) (by decide +kernel) rfl (by decide +kernel) rfl ?_)
      refine je_loc O l2 rfl ⟨rl, refs ws, fun i ys υ => υ = τ ∧ ys = refs (keepF f (ws.take i)), rfl, by rw [List.length_map]; omega, ⟨rfl, rfl⟩, fun i ys υ h => by rw [h.1]; exact I.rows.at_, ?_, ?_⟩
      · rintro i ys υ w hwi ⟨rfl, rfl⟩ C oC mm u hC ho hm eu
        rw [List.getElem?_map] at hwi
        cases hr : ws[i]? with
        | none => rw [hr] at hwi; cases hwi
        | some q =>
        rw [hr] at hwi
        cases hwi
        have hqm : q ∈ ws := List.mem_of_getElem? hr
        have up : Sub υ (upd υ C (.raw oC)) := Sub.upd hC
        have hk1 : keepF f (ws.take (i + 1)) = keepF f (ws.take i) ++ if q.2.f != f then [q] else [] := by
          unfold keepF
          rw [List.take_add_one, hr, List.filter_append]
          show _ ++ List.filter _ [q] = _
          congr 1
          by_cases h : (q.2.f != f) = true <;> simp [List.filter, h]
        refine jt_tests_one (jt_cmp (je_sub (je_cloc upd_self ho hm eu (je_int ?_) rfl rfl rfl)))
        refine js2_tup (up _ _ (I.rows.tups q hqm)) (by decide) (by decide) (v := vi q.2.f) rfl ?_
        refine je_ccell rfl (up _ _ dF) (jc_ne (asB ?_)) rfl (relabel_cell O.kind xF rfl) rfl
        refine ⟨fun hg => ?_, fun hg => ⟨υ, hC, fun b o e => e, rfl, ?_⟩⟩
        · refine je_cloc upd_self ho hm eu ?_ rfl rfl rfl
          refine ⟨υ, hC, fun b o e => e, rfl, ?_⟩
          rw [hk1, if_pos hg]; unfold refs; rw [List.map_append]; rfl
        · rw [hk1, if_neg (by rw [hg]; simp), List.append_nil]
      rintro υ ys ⟨rfl, rfl⟩ d hd
      rw [List.length_map, List.take_length]
      have hws' : (keepF f ws).length ≤ ws.length := List.length_filter_le _ _
      have EI := Ext.of_sub (Sub.upd (o := .list (refs (keepF f ws))) hd) I.src
      have I5 := I.ext EI.c
      have hds := I.src.ne hd
      have dF5 := EI.1 _ _ (cne I.src dF) dF
      have hoffd : ∀ q nd, T q = some nd → d ≠ nd.l := fun q nd h => (I.trie.fresh hd h).2.1
      have hR5 : RowsOk (upd υ d (.list (refs (keepF f ws)))) s d (keepF f ws) := ⟨upd_self, fun q hq => I5.rows.tups q (List.mem_filter.mp hq).1, fun q hq => I5.rows.ok q (List.mem_filter.mp hq).1, by have := I.rows.len; omega, hds⟩
      generalize upd υ d (.list (refs (keepF f ws))) = σ5 at I5 dF5 hR5 ⊢
      have hperm := W_perm I5.cor I5.rows.ok
      have hWlen : (W T []).length = ws.length := by have := hperm.length_eq; rwa [List.length_map, List.length_map] at this
      have hcnt : (W T []).countP (fun q => q.2.f == f) + (keepF f ws).length = ws.length := by
        have h1 := hperm.countP_eq (fun r => r.f == f)
        rw [List.countP_map, List.countP_map] at h1
        have h2 : (W T []).countP (fun q => q.2.f == f) = ws.countP (fun q => q.2.f == f) := h1
        rw [h2, List.countP_eq_length_filter]
        have := filter_len (fun q : Addr × Row => q.2.f == f) ws
        exact this
      refine js_cons (js_ret (je_if (jt_cmp ?_)))
      refine je_meth (C := 244) (ns := nRoutes) O (m_remove_face G) (v_remove_face G) (by decide) ?_
      refine je_loc O l1 rfl ⟨R, _, _, rfl, I5.at_, rfl, rfl, rfl, ?_⟩
      refine ja_cons (je_cell O kF dF5 (ja_nil ?_) xF rfl)
      refine ⟨R, root, _, f, T, rfl, I5.at_, I5.trie, by omega, fun p => Nat.le_trans (I5.cor.len _) (by omega), I5.cor.wf I5.rows.ok, fun σ6 T' M hT' => ?_⟩
      have hcor : Cor T' (keepF f ws) := cor_filter (f := fun r => r.f != f) I5.cor hT'
      have hR6 : RowsOk σ6 s d (keepF f ws) := hR5.fram I5.trie I5.at_ hoffd M
      have hRr : RowsOk σ6 s rl ws := I5.rows.fram I5.trie I5.at_ I5.offR M
      have WF : WI σ6 s R root d T' (keepF f ws) := I5.mut M (by omega) hcor hR6 hoffd (by rw [hR5.at_]; simp)
      refine je_bin ?_
      refine je_len O g3 (b_len G) (je_loc O l2 rfl ⟨rl, _, rfl, hRr.at_, by rw [List.length_map]; omega, ?_⟩)
      refine je_len O g3 (b_len G) (je_loc O l5 rfl ⟨d, _, rfl, hR6.at_, by rw [List.length_map]; omega, ?_⟩)
      rw [List.length_map, List.length_map]
      refine jb_sub (jc_eq (asB ⟨fun _ => je_loc O l5 rfl (hQ σ6 d T' _ WF (by omega)), fun hb => ?_⟩))
      exfalso
      have : ¬ (((W T []).countP (fun q => q.2.f == f) : Nat) : Int) = (ws.length : Int) - ((keepF f ws).length : Int) := by simpa using hb
      apply this
      omega
    clear dN1 dP1 dF1
    refine js_cons (js_assign O l4 ?_)
    refine je_call O g4 (t_route G) (v_route G) (by decide) ?_
    refine ja_cons (je_loc O l0 rfl (ja_nil ?_))
    refine ⟨s, rfl, I1.src, fun t σ3 r ht hts hv hok hE => ?_⟩
    have I2 := I1.ext hE.c
    have hv' : σ3 t = some (.tup [vi r.n, vi r.p, vi r.g, vi r.f, vi r.m]) := hv
    refine js_cons (js_expr ?_ (inter O))
    refine je_meth (C := 244) (ns := nRoutes) O (m_add G) (v_add G) (by decide) ?_
    refine je_loc O l1 rfl ⟨R, _, _, rfl, I2.at_, rfl, rfl, rfl, ?_⟩
    refine ja_cons ?_
    refine je_call O g5 (t_Route G) (v_Route G) (by decide) ?_
    refine ja_cons (je_sub (je_loc O l4 rfl (je_int ?_)))
    refine js2_tup hv' (by decide) (by decide) (v := vi r.n) rfl ?_
    refine ja_cons (je_sub (je_loc O l4 rfl (je_int ?_)))
    refine js2_tup hv' (by decide) (by decide) (v := vi r.p) rfl ?_
    refine ja_cons (je_sub (je_loc O l4 rfl (je_int ?_)))
    refine js2_tup hv' (by decide) (by decide) (v := vi r.g) rfl ?_
    refine ja_cons (je_sub (je_loc O l4 rfl (je_int ?_)))
    refine js2_tup hv' (by decide) (by decide) (v := vi r.f) rfl ?_
    refine ja_cons (je_sub (je_loc O l4 rfl (je_int ?_)))
    refine js2_tup hv' (by decide) (by decide) (v := vi r.m) rfl (ja_nil ?_)
    refine ⟨r.n, r.p, r.g, r.f, r.m, rfl, fun x hx => ja_nil ?_⟩
    have E4 := Ext.of_sub (Sub.upd (o := .route r.n r.p r.g r.f r.m) hx) I2.src
    have I4 := I2.ext E4.c
    have hv4 : (upd σ3 x (.route r.n r.p r.g r.f r.m)) t = some r.tup := E4.1 _ _ hts hv
    have hx4 : (upd σ3 x (.route r.n r.p r.g r.f r.m)) x = some r.ao := upd_self
    generalize upd σ3 x (.route r.n r.p r.g r.f r.m) = σ4 at I4 hv4 hx4 ⊢
    refine ⟨R, root, x, _, T, r, rfl, I4.at_, I4.trie, hx4, hok.good, Nat.le_trans (I4.cor.len _) (by omega), fun σ5 T' M hT' => ⟨rfl, ?_⟩⟩
    have hR5 := I4.rows.fram I4.trie I4.at_ I4.offR M
    have hv5 : σ5 t = some r.tup := M.fram _ _ hv4 rfl (fun e => by have := I4.at_; rw [← e, hv4] at this; cases this) (fun p nd hp e => by have := I4.trie.lst _ _ hp; rw [← e, hv4] at this; cases this)
    have hcor := cor_add (t := t) I4.cor I4.rows.ok hok hT'
    have hlenR := putW_lenR (t := t) hok I4.rows.ok (x := x) (I4.cor r.path)
    have hlenW := putW_len (q := (t, r)) (ws := ws)
    refine js_cons (js_ret ?_)
    refine je_call O g6 (t_put G) (v_put G) (by decide) ?_
    refine ja_cons (je_loc O l2 rfl (ja_cons (je_loc O l4 rfl (ja_nil ?_))))
    refine ⟨rl, t, ws, r, rfl, hR5.at_, hR5.tups, hv5, by omega, fun d σ6 hd hsub hdl => ?_⟩
    have W5 : WI σ5 s R root rl T' ws → True := fun _ => trivial
    have hsrc5 := I4.src.fram I4.RNe I4.offS M
    have hds : d ≠ s := hsrc5.ne hd
    refine hQ σ6 d T' (putW (t, r) ws) ⟨hsrc5.sub hsub, ⟨hdl, fun q hq => ?_, fun q hq => ?_, by omega, hds⟩, ?_, M.trie.sub hsub, hcor, fun p nd h e => ?_, fun p nd h => (M.trie.fresh hd h).2.1⟩ hlenW
    · rcases putW_mem hq with rfl | h
      · exact hsub _ _ hv5
      · exact hsub _ _ (hR5.tups q h)
    · rcases putW_mem hq with rfl | h
      · exact hok
      · exact hR5.ok q h
    · rw [hsub _ _ M.at_]
      congr 2
      omega
    · rcases M.lsub _ _ h with ⟨q, nd', h1, h2⟩ | h1
      · exact I4.offS _ _ h1 (e.trans h2.symm)
      · obtain ⟨a, b, hs, _⟩ := I4.src
        rw [← e, hs] at h1; cases h1
end Mine
end

section
open PySem PySem.W PyProof.Rows PySem.Spec PySem.Calls
namespace Mine
noncomputable def Hold (lt : Nat → Nat → Bool) (n : Nat) {α : Type} : KasT α → (α → Prop) → Prop
  | .ret a, Q => Q a
  | .ask i j k, Q => i < n ∧ j < n ∧ Hold lt n (k (lt i j)) Q
theorem Hold.mono {lt : Nat → Nat → Bool} {n : Nat} {α : Type} {Q Q' : α → Prop} (h : ∀ a, Q a → Q' a) : ∀ {t : KasT α}, Hold lt n t Q → Hold lt n t Q'
  | .ret a, x => h a x
  | .ask i j k, ⟨h1, h2, x⟩ => ⟨h1, h2, Hold.mono h x⟩
theorem Hold.bind {lt : Nat → Nat → Bool} {n : Nat} {α β : Type} {f : α → KasT β} {Q : β → Prop} : ∀ {t : KasT α}, Hold lt n t (fun a => Hold lt n (f a) Q) → Hold lt n (t.bind f) Q
  | .ret a, x => x
  | .ask i j k, ⟨h1, h2, x⟩ => ⟨h1, h2, Hold.bind x⟩
theorem Hold.wp {lt : Nat → Nat → Bool} {n : Nat} {α : Type} {cmp : Nat → Nat → (Bool → Shared → Prop) → Shared → Prop} {s : Shared} (hc : ∀ i j (C : Bool → Shared → Prop), i < n → j < n → C (lt i j) s → cmp i j C s) {Q : α → Prop} {R : α → Shared → Prop} (hR : ∀ a, Q a → R a s) : ∀ {t : KasT α}, Hold lt n t Q → t.kasWp cmp R s
  | .ret a, x => hR a x
  | .ask i j k, ⟨h1, h2, x⟩ => hc i j _ h1 h2 (Hold.wp hc hR x)
structure Ord (lt : Nat → Nat → Bool) : Prop where
  asym : ∀ a b, lt a b = true → lt b a = false
  trans : ∀ a b c, lt b a = false → lt c b = false → lt c a = false
theorem Ord.irr {lt : Nat → Nat → Bool} (O : Ord lt) (a : Nat) : lt a a = false := by
  cases h : lt a a with
  | false => rfl
  | true => rw [O.asym a a h] at h; cases h
abbrev el (p : Array Nat) (i : Nat) : Nat := p.getD i 0
structure PV (n : Nat) (p : Array Nat) : Prop where
  sz : p.size = n
  perm : p.toList.Perm (List.range n)
theorem PV.lt {n : Nat} {p : Array Nat} (h : PV n p) {i : Nat} (hi : i < n) : el p i < n := by
  have hi' : i < p.size := by rw [h.sz]; exact hi
  have e : el p i = p[i] := by simp [el, Array.getD, hi']
  rw [e]
  have : p[i] ∈ p.toList := by simp
  exact List.mem_range.mp (h.perm.mem_iff.mp this)
theorem el_of {p q : Array Nat} {i j : Nat} (h : p[i]? = q[j]?) : el p i = el q j := by
  unfold el
  rw [Array.getD_eq_getD_getElem?, Array.getD_eq_getD_getElem?, h]
noncomputable def Srt (lt : Nat → Nat → Bool) (p : Array Nat) (m : Nat) : Prop := ∀ i j, i ≤ j → j < m → lt (el p j) (el p i) = false
noncomputable def Dsc (lt : Nat → Nat → Bool) (p : Array Nat) (m : Nat) : Prop := ∀ i j, i ≤ j → j < m → lt (el p i) (el p j) = false
section
variable {lt : Nat → Nat → Bool} {N : Nat}
theorem PV.rev {p : Array Nat} (h : PV N p) (i j : Nat) : PV N (kas_rev p i j) :=
  ⟨by rw [kas_rev_size, h.sz], (Array.perm_iff_toList_perm.mp (mirror_perm _ _ _ _)).trans h.perm⟩
theorem PV.bub {p : Array Nat} (h : PV N p) (i j : Nat) : PV N (bubble p i j) :=
  ⟨by rw [bubble_size, h.sz], (Array.perm_iff_toList_perm.mp (bubble_perm _ _ _)).trans h.perm⟩
theorem el_rev {p : Array Nat} (h : PV N p) {i j : Nat} (hj : j ≤ N) (k : Nat) : el (kas_rev p i j) k = if i ≤ k ∧ k < j then el p (i + j - 1 - k) else el p k := by
  have := getElem?_mirror_all (xs := p) (i := i) (j := j) (by rw [h.sz]; exact hj) k
  by_cases hc : i ≤ k ∧ k < j
  · rw [if_pos hc] at this ⊢; exact el_of this
  · rw [if_neg hc] at this ⊢; exact el_of this
theorem asc_ok (O : Ord lt) {p : Array Nat} (h : PV N p) : ∀ (f : Nat) {a : Nat}, 1 ≤ a → a + f ≤ N → Srt lt p a → Hold lt N (kas_asc p f a) fun m => a ≤ m ∧ m ≤ a + f ∧ Srt lt p m ∧ (m = a + f ∨ lt (el p m) (el p (m - 1)) = true)
  | 0, a, ha, hn, hs => ⟨Nat.le_refl _, Nat.le_refl _, hs, .inl rfl⟩
  | f + 1, a, ha, hn, hs => by
    refine ⟨h.lt (by omega), h.lt (by omega), ?_⟩
    show Hold lt N (if lt (el p a) (el p (a - 1)) = true then KasT.ret a else kas_asc p f (a + 1)) _
    cases hc : lt (el p a) (el p (a - 1)) with
    | true =>
      rw [if_pos rfl]
      exact ⟨Nat.le_refl _, by omega, hs, .inr hc⟩
    | false =>
      rw [if_neg (by simp)]
      refine Hold.mono ?_ (asc_ok O h f (a := a + 1) (by omega) (by omega) ?_)
      · rintro m ⟨h1, h2, h3, h4⟩
        exact ⟨by omega, by omega, h3, by rcases h4 with h4 | h4; exact .inl (by omega); exact .inr h4⟩
      · intro i j hij hj
        by_cases hja : j < a
        · exact hs i j hij hja
        · obtain rfl : j = a := by omega
          by_cases hia : i = j
          · rw [hia]; exact O.irr _
          · exact O.trans _ _ _ (hs i (j - 1) (by omega) (by omega)) hc
noncomputable def LastEq (lt : Nat → Nat → Bool) (p : Array Nat) (n q : Nat) : Prop := ∀ i j, n - (q + 1) ≤ i → i < n → n - (q + 1) ≤ j → j < n → lt (el p i) (el p j) = false
theorem rev_dsc (O : Ord lt) {p : Array Nat} (h : PV N p) {n q : Nat} (hn : n ≤ N) (hq : q + 1 ≤ n) (hd : Dsc lt p n) (he : LastEq lt p n q) : Dsc lt (kas_rev p (n - (q + 1)) n) n := by
  intro i j hij hj
  rw [el_rev h hn, el_rev h hn]
  by_cases hi : n - (q + 1) ≤ i ∧ i < n
  · rw [if_pos hi]
    by_cases hj' : n - (q + 1) ≤ j ∧ j < n
    · rw [if_pos hj']; exact he _ _ (by omega) (by omega) (by omega) (by omega)
    · omega
  · rw [if_neg hi]
    by_cases hj' : n - (q + 1) ≤ j ∧ j < n
    · rw [if_pos hj']; exact hd _ _ (by omega) (by omega)
    · rw [if_neg hj']; exact hd _ _ hij hj
theorem dsc_step (O : Ord lt) {p : Array Nat} {n : Nat} (hn : 1 ≤ n) (hd : Dsc lt p n) (h : lt (el p (n - 1)) (el p n) = false) : Dsc lt p (n + 1) := by
  intro i j hij hj
  by_cases hjn : j < n
  · exact hd i j hij hjn
  · obtain rfl : j = n := by omega
    by_cases hi : i = j
    · rw [hi]; exact O.irr _
    · exact O.trans _ _ _ h (hd i (j - 1) (by omega) (by omega))
theorem desc_ok (O : Ord lt) : ∀ (f : Nat) {p : Array Nat} {n q : Nat}, PV N p → 1 ≤ n → n + f ≤ N → q + 1 ≤ n → Dsc lt p n → LastEq lt p n q →
    Hold lt N (kas_desc f p n q) fun r => PV N r.1 ∧ n ≤ r.2.1 ∧ r.2.1 ≤ n + f ∧ r.2.2 + 1 ≤ r.2.1 ∧ Dsc lt r.1 r.2.1 ∧ LastEq lt r.1 r.2.1 r.2.2
  | 0, p, n, q, h, hn, hf, hq, hd, he => ⟨h, Nat.le_refl _, Nat.le_refl _, hq, hd, he⟩
  | f + 1, p, n, q, h, hn, hf, hq, hd, he => by
    refine ⟨h.lt (by omega), h.lt (by omega), ?_⟩
    have weak : ∀ {r : Array Nat × Nat × Nat}, (PV N r.1 ∧ n + 1 ≤ r.2.1 ∧ r.2.1 ≤ n + 1 + f ∧ r.2.2 + 1 ≤ r.2.1 ∧ Dsc lt r.1 r.2.1 ∧ LastEq lt r.1 r.2.1 r.2.2) → PV N r.1 ∧ n ≤ r.2.1 ∧ r.2.1 ≤ n + (f + 1) ∧ r.2.2 + 1 ≤ r.2.1 ∧ Dsc lt r.1 r.2.1 ∧ LastEq lt r.1 r.2.1 r.2.2 := fun ⟨a, b, c, d, e, g⟩ => ⟨a, by omega, by omega, d, e, g⟩
    have last0 : ∀ p, LastEq lt p (n + 1) 0 := fun p i j h1 h2 h3 h4 => by
      obtain rfl : i = n := by omega
      obtain rfl : j = i := by omega
      exact O.irr _
    show Hold lt N (if lt (el p n) (el p (n - 1)) = true then (if q > 0 then kas_desc f (kas_rev p (n - (q + 1)) n) (n + 1) 0 else kas_desc f p (n + 1) 0)
      else .ask (p.getD (n - 1) 0) (p.getD n 0) fun d => if d = true then .ret (p, n, q) else kas_desc f p (n + 1) (q + 1)) _
    cases hc : lt (el p n) (el p (n - 1)) with
    | true =>
      rw [if_pos rfl]
      have hlast := O.asym _ _ hc
      by_cases hq0 : q > 0
      · rw [if_pos hq0]
        refine Hold.mono (fun _ => weak) (desc_ok O f (h.rev _ _) (by omega) (by omega) (by omega) ?_ (last0 _))
        refine dsc_step O hn (rev_dsc O h (by omega) hq hd he) ?_
        rw [el_rev h (by omega), el_rev h (by omega), if_pos (by omega), if_neg (by omega)]
        exact O.trans _ _ _ hlast (he _ _ (by omega) (by omega) (by omega) (by omega))
      · rw [if_neg hq0]
        exact Hold.mono (fun _ => weak) (desc_ok O f h (by omega) (by omega) (by omega) (dsc_step O hn hd hlast) (last0 _))
    | false =>
      rw [if_neg (by simp)]
      refine ⟨h.lt (by omega), h.lt (by omega), ?_⟩
      show Hold lt N (if lt (el p (n - 1)) (el p n) = true then .ret (p, n, q) else kas_desc f p (n + 1) (q + 1)) _
      cases hc2 : lt (el p (n - 1)) (el p n) with
      | true =>
        rw [if_pos rfl]
        exact ⟨h, Nat.le_refl _, Nat.le_add_right _ _, hq, hd, he⟩
      | false =>
        rw [if_neg (by simp)]
        refine Hold.mono (fun _ => weak) (desc_ok O f h (by omega) (by omega) (by omega) (dsc_step O hn hd hc2) ?_)
        intro i j h1 h2 h3 h4
        by_cases hi : i = n
        · subst hi
          by_cases hj : j = i
          · rw [hj]; exact O.irr _
          · exact O.trans _ _ _ (he j (i - 1) |> fun x => by exact he (i - 1) j (by omega) (by omega) (by omega) (by omega)) hc
        · by_cases hj : j = n
          · subst hj
            exact O.trans _ _ _ hc2 (he i (j - 1) (by omega) (by omega) (by omega) (by omega))
          · exact he i j (by omega) (by omega) (by omega) (by omega)
theorem rev_srt {p : Array Nat} (h : PV N p) {n : Nat} (hn : n ≤ N) (hd : Dsc lt p n) : Srt lt (kas_rev p 0 n) n := by
  intro i j hij hj
  rw [el_rev h hn, el_rev h hn, if_pos (by omega), if_pos (by omega)]
  exact hd _ _ (by omega) (by omega)
noncomputable def CntOk (lt : Nat → Nat → Bool) (N : Nat) (r : Nat × Array Nat) : Prop := PV N r.2 ∧ 1 ≤ r.1 ∧ r.1 ≤ N ∧ Srt lt r.2 r.1
theorem tail_ok (O : Ord lt) {p : Array Nat} {n : Nat} (h : PV N p) (hn : 1 ≤ n) (hN : n ≤ N) (hd : Dsc lt p n) : Hold lt N (kas_tail3 n N p) (CntOk lt N) := by
  refine Hold.bind (Hold.mono ?_ (asc_ok O (h.rev 0 n) (N - n) hn (by omega) (rev_srt h hN hd)))
  rintro m ⟨h1, h2, h3, _⟩
  exact ⟨h.rev 0 n, by omega, by omega, h3⟩
theorem descPart_ok (O : Ord lt) {p : Array Nat} {n : Nat} (h : PV N p) (hn : 1 ≤ n) (hN : n + 1 ≤ N) (hd : Dsc lt p (n + 1)) : Hold lt N (kas_descPart n N p) (CntOk lt N) := by
  refine Hold.bind (Hold.mono ?_ (desc_ok O (N - (n + 1)) (q := 0) h (by omega) (by omega) (by omega) hd ?_))
  · rintro ⟨p', m, q⟩ ⟨h1, h2, h3, h4, h5, h6⟩
    dsimp only at h1 h2 h3 h4 h5 h6 ⊢
    by_cases hq : q > 0
    · rw [if_pos hq]
      exact tail_ok O (h1.rev _ _) (by omega) (by omega) (rev_dsc O h1 (by omega) h4 h5 h6)
    · rw [if_neg hq]
      exact tail_ok O h1 (by omega) (by omega) h5
  · intro i j h1 h2 h3 h4
    obtain rfl : i = n := by omega
    obtain rfl : j = i := by omega
    exact O.irr _
theorem count_ok (O : Ord lt) {p : Array Nat} (h : PV N p) (hN : 2 ≤ N) : Hold lt N (kas_count N p) (CntOk lt N) := by
  refine Hold.bind (Hold.mono ?_ (asc_ok O h (N - 1) (a := 1) (Nat.le_refl _) (by omega) ?_))
  · rintro n ⟨h1, h2, h3, h4⟩
    by_cases hn : n = N
    · subst hn
      rw [if_pos (by simp)]
      exact ⟨h, h1, Nat.le_refl _, h3⟩
    · rw [if_neg (by simpa using hn)]
      have hlt : lt (el p n) (el p (n - 1)) = true := by
        rcases h4 with h4 | h4
        · omega
        · exact h4
      by_cases hn1 : n > 1
      · rw [if_pos hn1]
        refine ⟨h.lt (by omega), h.lt (by omega), ?_⟩
        show Hold lt N (if lt (el p 0) (el p (n - 1)) = true then .ret (n, p) else kas_descPart n N (kas_rev p 0 n)) _
        cases hc : lt (el p 0) (el p (n - 1)) with
        | true => rw [if_pos rfl]; exact ⟨h, h1, by omega, h3⟩
        | false =>
          rw [if_neg (by simp)]
          have alleq : ∀ i j, i < n → j < n → lt (el p i) (el p j) = false := fun i j hi hj =>
            O.trans _ _ _ (O.trans _ _ _ (h3 j (n - 1) (by omega) (by omega)) hc) (h3 0 i (by omega) hi)
          refine descPart_ok O (h.rev 0 n) h1 (by omega) (dsc_step O h1 ?_ ?_)
          · intro i j hij hj
            rw [el_rev h (by omega), el_rev h (by omega), if_pos (by omega), if_pos (by omega)]
            exact alleq _ _ (by omega) (by omega)
          · rw [el_rev h (by omega), el_rev h (by omega), if_pos (by omega), if_neg (by omega)]
            exact O.trans _ _ _ (O.asym _ _ hlt) (alleq _ _ (by omega) (by omega))
      · rw [if_neg hn1]
        obtain rfl : n = 1 := by omega
        refine descPart_ok O h (Nat.le_refl _) (by omega) (dsc_step O (Nat.le_refl _) ?_ (O.asym _ _ hlt))
        intro i j hij hj
        obtain rfl : i = 0 := by omega
        obtain rfl : j = 0 := by omega
        exact O.irr _
  · intro i j hij hj
    obtain rfl : i = 0 := by omega
    obtain rfl : j = 0 := by omega
    exact O.irr _
theorem place_ok (O : Ord lt) {p : Array Nat} {k : Nat} (h : PV N p) (hk : k < N) (hs : Srt lt p k) : ∀ (f : Nat) {l r : Nat}, l ≤ r → r ≤ k → r - l ≤ f → (∀ i, i < l → lt (el p k) (el p i) = false) → (∀ i, r ≤ i → i < k → lt (el p k) (el p i) = true) →
    Hold lt N (kas_place p k f l r) fun l' => l' ≤ k ∧ (∀ i, i < l' → lt (el p k) (el p i) = false) ∧ (∀ i, l' ≤ i → i < k → lt (el p k) (el p i) = true)
  | 0, l, r, hlr, hr, hf, h1, h2 => ⟨by omega, h1, fun i hi hik => h2 i (by omega) hik⟩
  | f + 1, l, r, hlr, hr, hf, h1, h2 => by
    unfold kas_place
    by_cases hge : l ≥ r
    · rw [if_pos hge]
      exact ⟨by omega, h1, fun i hi hik => h2 i (by omega) hik⟩
    · rw [if_neg hge]
      refine ⟨h.lt hk, h.lt (by omega), ?_⟩
      show Hold lt N (if lt (el p k) (el p ((l + r) / 2)) = true then kas_place p k f l ((l + r) / 2) else kas_place p k f ((l + r) / 2 + 1) r) _
      cases hc : lt (el p k) (el p ((l + r) / 2)) with
      | true =>
        rw [if_pos rfl]
        refine place_ok O h hk hs f (by omega) (by omega) (by omega) h1 fun i hi hik => ?_
        cases hx : lt (el p k) (el p i) with
        | true => rfl
        | false =>
          have := O.trans _ _ _ (hs ((l + r) / 2) i hi hik) hx
          rw [hc] at this; cases this
      | false =>
        rw [if_neg (by simp)]
        refine place_ok O h hk hs f (by omega) (by omega) (by omega) (fun i hi => ?_) h2
        exact O.trans _ _ _ (hs i ((l + r) / 2) (by omega) (by omega)) hc
theorem bin_ok (O : Ord lt) : ∀ (f : Nat) {p : Array Nat} {k : Nat}, PV N p → k + f = N → Srt lt p k → Hold lt N (kas_bin f p k) fun q => PV N q ∧ Srt lt q N
  | 0, p, k, h, hk, hs => by
    obtain rfl : k = N := by omega
    exact ⟨h, hs⟩
  | f + 1, p, k, h, hk, hs => by
    refine Hold.bind (Hold.mono ?_ (place_ok O h (by omega) hs k (Nat.zero_le _) (Nat.le_refl _) (by omega) (fun i hi => absurd hi (Nat.not_lt_zero _)) fun i h1 h2 => by omega))
    rintro l ⟨h1, h2, h3⟩
    refine bin_ok O f (h.bub _ _) (by omega) fun i j hij hj => ?_
    have eb : ∀ x, el (bubble p k (k - l)) x = if x = l then el p k else if l < x ∧ x ≤ k then el p (x - 1) else el p x := fun x => by
      have := getElem?_bubble (xs := p) (src := k) (by rw [h.sz]; omega) (k - l) (by omega) x
      rw [show k - (k - l) = l by omega] at this
      by_cases c1 : x = l
      · rw [if_pos c1] at this ⊢; exact el_of this
      · rw [if_neg c1] at this ⊢
        by_cases c2 : l < x ∧ x ≤ k
        · rw [if_pos c2] at this ⊢; exact el_of this
        · rw [if_neg c2] at this ⊢; exact el_of this
    rw [eb, eb]
    repeat' split
    all_goals first
      | (exfalso; omega)
      | exact O.irr _
      | exact h2 _ (by omega)
      | exact O.asym _ _ (h3 _ (by omega) (by omega))
      | exact hs _ _ (by omega) (by omega)
theorem sort_ok (O : Ord lt) (hN : 2 ≤ N) : Hold lt N (kas_sort N) fun q => PV N q ∧ Srt lt q N := by
  have h0 : PV N (List.toArray (List.range N)) := ⟨by simp, by simp⟩
  refine Hold.bind (Hold.mono ?_ (count_ok O h0 hN))
  rintro ⟨m, p⟩ ⟨h1, h2, h3, h4⟩
  dsimp only at h1 h2 h3 h4 ⊢
  by_cases hm : m < N
  · rw [if_pos hm]
    have : max m 1 = m := by omega
    rw [this]
    exact bin_ok O _ h1 (by omega) h4
  · rw [if_neg hm]
    obtain rfl : m = N := by omega
    exact ⟨h1, h4⟩
/-- what is in order already stays -/
theorem sort_same (O : Ord lt) (hN : 2 ≤ N) (hs : ∀ i j, i ≤ j → j < N → lt j i = false) : Hold lt N (kas_sort N) fun q => q = List.toArray (List.range N) := by
  have h0 : PV N (List.toArray (List.range N)) := ⟨by simp, by simp⟩
  have el0 : ∀ i, i < N → el (List.toArray (List.range N)) i = i := fun i hi => by simp [el, hi]
  have go : ∀ (f a : Nat), 1 ≤ a → a + f = N → Hold lt N (kas_asc (List.toArray (List.range N)) f a) fun m => m = N := by
    intro f
    induction f with
    | zero => intro a ha he; exact (show a = N by omega)
    | succ f ih =>
      intro a ha he
      refine ⟨h0.lt (by omega), h0.lt (by omega), ?_⟩
      show Hold lt N (if lt (el (List.toArray (List.range N)) a) (el (List.toArray (List.range N)) (a - 1)) = true then KasT.ret a else kas_asc (List.toArray (List.range N)) f (a + 1)) _
      rw [el0 a (by omega), el0 (a - 1) (by omega), hs (a - 1) a (by omega) (by omega), if_neg (by simp)]
      exact ih (a + 1) (by omega) (by omega)
  refine Hold.bind (Hold.bind (Hold.mono ?_ (go (N - 1) 1 (Nat.le_refl _) (by omega))))
  rintro m rfl
  rw [if_pos (by simp)]
  show Hold lt m (if m < m then _ else _) _
  rw [if_neg (by omega)]
  rfl
end
end Mine
end

section
open PySem PySem.W PyProof.Rows PySem.Spec PySem.Calls
namespace Mine
noncomputable def ltL : List Int → List Int → Bool
  | [], [] => false
  | [], _ :: _ => true
  | _ :: _, [] => false
  | x :: xs, y :: ys => if x = y then ltL xs ys else decide (x < y)
noncomputable def lexF (fin : Bool) : List Int → List Int → Bool
  | x :: xs, y :: ys => if x = y then lexF fin xs ys else decide (x < y)
  | _, _ => fin
theorem lexF_ltL : ∀ (xs ys : List Int), lexF (decide (xs.length < ys.length)) xs ys = ltL xs ys
  | [], [] => rfl
  | [], _ :: _ => by simp [lexF, ltL]
  | _ :: _, [] => by simp [lexF, ltL]
  | x :: xs, y :: ys => by
    have := lexF_ltL xs ys
    simp only [lexF, ltL, List.length_cons, Nat.add_lt_add_iff_right]
    rw [this]
theorem ltL_asym : ∀ a b : List Int, ltL a b = true → ltL b a = false
  | [], [], h => by simp [ltL] at h
  | [], _ :: _, _ => rfl
  | _ :: _, [], h => by simp [ltL] at h
  | x :: xs, y :: ys, h => by
    simp only [ltL] at h ⊢
    by_cases e : x = y
    · subst e; simp only [if_true] at h ⊢; exact ltL_asym xs ys h
    · rw [if_neg e] at h
      rw [if_neg (Ne.symm e)]
      simp only [decide_eq_true_eq] at h
      simp only [decide_eq_false_iff_not]; omega
theorem ltL_trans : ∀ a b c : List Int, ltL b a = false → ltL c b = false → ltL c a = false
  | [], _, [], _, _ => rfl
  | [], _, _ :: _, _, _ => rfl
  | _ :: _, [], _, h, _ => by simp [ltL] at h
  | _ :: _, _ :: _, [], _, h => by simp [ltL] at h
  | x :: xs, y :: ys, z :: zs, h, k => by
    simp only [ltL] at h k ⊢
    by_cases e : y = x
    · subst e
      rw [if_pos rfl] at h
      by_cases e2 : z = y
      · subst e2; rw [if_pos rfl] at k ⊢; exact ltL_trans xs ys zs h k
      · rw [if_neg e2] at k ⊢; exact k
    · rw [if_neg e] at h
      simp only [decide_eq_false_iff_not] at h
      by_cases e2 : z = y
      · subst e2; rw [if_neg e]; simp only [decide_eq_false_iff_not]; exact h
      · rw [if_neg e2] at k
        simp only [decide_eq_false_iff_not] at k
        rw [if_neg (by omega)]
        simp only [decide_eq_false_iff_not]; omega
theorem ltL_anti : ∀ a b : List Int, ltL a b = false → ltL b a = false → a = b
  | [], [], _, _ => rfl
  | [], _ :: _, h, _ => by simp [ltL] at h
  | _ :: _, [], _, h => by simp [ltL] at h
  | x :: xs, y :: ys, h, k => by
    simp only [ltL] at h k
    by_cases e : x = y
    · subst e; rw [if_pos rfl] at h k; rw [ltL_anti xs ys h k]
    · rw [if_neg e] at h; rw [if_neg (Ne.symm e)] at k
      simp only [decide_eq_false_iff_not] at h k; omega
theorem ord_ltL (f : Nat → List Int) : Ord fun i j => ltL (f i) (f j) := ⟨fun a b h => ltL_asym _ _ h, fun a b c h k => ltL_trans _ _ _ h k⟩

theorem zip_snd : ∀ vs : List Value, (vs.zip vs).map (fun x => x.2) = vs
  | [] => rfl
  | v :: vs => by rw [List.zip_cons_cons, List.map_cons, zip_snd vs]
section
variable {prog : Program} {w : World} {A : Around} {E : Value → Shared → Prop} {s : Shared}
theorem lex_ints {b fin : Bool} {Q : Bool → Shared → Prop} : ∀ (us vs : List Value) (is js : List Int) (k : Nat), us.map er = is.map vi → vs.map er = js.map vi → Q (lexF fin is js) s → KatLex prog w A b fin Q (us.zip vs) k s
  | [], _, is, js, _, e, _, h => by
    cases is with
    | nil => exact kat_nil (by simpa [lexF] using h)
    | cons => simp at e
  | _ :: _, [], is, js, _, _, e, h => by
    cases js with
    | nil => cases is <;> exact kat_nil (by simpa [lexF] using h)
    | cons => simp at e
  | u :: us, v :: vs, is, js, k, e, e', h => by
    cases is with
    | nil => simp at e
    | cons x is =>
    cases js with
    | nil => simp at e'
    | cons y js =>
    simp only [List.map_cons, List.cons.injEq] at e e'
    obtain ⟨t, rfl⟩ := er_int e.1
    obtain ⟨t', rfl⟩ := er_int e'.1
    rw [List.zip_cons_cons]
    refine kat_cons (wpAny_eqBool_int ?_)
    unfold lexF at h
    by_cases q : x = y
    · subst q
      rw [if_pos rfl] at h
      rw [beq_self_eq_true]
      exact kat_yes (lex_ints us vs is js (k + 1) e.2 e'.2 h)
    · rw [if_neg q] at h
      rw [show (x == y) = false from by simpa using q]
      refine kat_no ?_
      cases hb : (b && k == 0) with
      | true => exact oneLt_int h
      | false => exact kat_one _ _ (PyProof.Rows.lt_int h)
/-- a list of none, of one: the sort leaves it -/
theorem short_list_sort {h₀ : Heap} {L a : Addr} {m : PySem.Str → Option Value} {news : List (Addr × Obj)} {vs : List Value} {n : Nat} {P : PySem.Fin → Shared → Prop} (F : Fr h₀ L s.heap m) (N : News h₀ L s.heap news) (ho : s.heap.get? a = some (seqObj "list" vs.toArray n)) (haL : a ≠ L) (ha0 : h₀.get? a = none) (hna : ∀ p ∈ news, p.1 ≠ a)
    (h2 : vs.length < 2)
    (h : ∀ e1 h', Fr h₀ L h' m → News h₀ L h' ((a, seqObj "list" vs.toArray e1) :: news) → P (.done (.ret .none)) { s with heap := h' }) :
    wpAny (model prog w) A (Builtin.«list.sort» ⟨[.ref a], []⟩) P E s := by
  have ha : a < s.heap.objs.size := Heap.lt_size ho
  have s1 := Heap.SameBut.update s.heap a (Obj.mapSeq fun _ => (#[] : Array Value))
  obtain ⟨e1, ho1⟩ : ∃ e1, (s.heap.update a (Obj.mapSeq fun _ => (#[] : Array Value))).get? a = some (seqObj "list" #[] e1) := ⟨_, get?_update_seq ho fun _ => #[]⟩
  have F3 : Fr h₀ L (((s.heap.update a (Obj.mapSeq fun _ => (#[] : Array Value))).push (seqObj "tuple" vs.toArray 0)).push (seqObj "list" #[] 0)) m := ((kas_fr F s1 haL ha0).push _).push _
  have N2 : News h₀ L (((s.heap.update a (Obj.mapSeq fun _ => (#[] : Array Value))).push (seqObj "tuple" vs.toArray 0)).push (seqObj "list" #[] 0)) news :=
    (kas_news N s1 hna).grown fun b x e => Heap.get?_push_of_some _ (Heap.get?_push_of_some _ e)
  have ho6 : (((s.heap.update a (Obj.mapSeq fun _ => (#[] : Array Value))).push (seqObj "tuple" vs.toArray 0)).push (seqObj "list" #[] 0)).get? a = some (seqObj "list" #[] e1) := Heap.get?_push_of_some _ (Heap.get?_push_of_some _ ho1)
  generalize hH : (((s.heap.update a (Obj.mapSeq fun _ => (#[] : Array Value))).push (seqObj "tuple" vs.toArray 0)).push (seqObj "list" #[] 0)) = H at F3 N2 ho6
  have s4 := Heap.SameBut.update H a (Obj.mapSeq fun _ => vs.toArray)
  obtain ⟨e2, ho2⟩ : ∃ e2, (H.update a (Obj.mapSeq fun _ => vs.toArray)).get? a = some (seqObj "list" vs.toArray e2) := ⟨_, get?_update_seq ho6 fun _ => vs.toArray⟩
  rw [list_sort_plain]
  refine wpAny_bind (listItems_at ho rfl ?_)
  refine wpAny_bind (listUpdate_at ho rfl ?_ (by rw [List.size_toArray, sizeLine_eq]; omega) (Nat.zero_le _))
  refine wpAny_bind (seqEpoch_at ho1 rfl ?_)
  refine wpAny_bind (wpAny_newTuple ?_ (by show vs.length ≤ _; rw [sizeLine_eq]; omega))
  refine wpAny_bind (wpAny_newList ?_ (Nat.zero_le _))
  refine wpAny_holding ?_
  show wpAny (model prog w) A _ P E { s with heap := ((s.heap.update a (Obj.mapSeq fun _ => (#[] : Array Value))).push (seqObj "tuple" vs.toArray 0)).push (seqObj "list" #[] 0) }
  rw [hH]
  dsimp only
  have hn2 : vs.toArray.size < 2 := by rw [List.size_toArray]; omega
  rw [if_pos hn2, if_pos hn2]
  refine wpAny_bind (wpAny_pure ?_)
  rw [StateT.run_pure]
  refine wpAny_bind (wpAny_pure ?_)
  dsimp only
  have hout : (arrOf (SortSt.mk' general' (vs.toArray.zip vs.toArray) #[] 7 none)).map (·.2) = vs.toArray := by
    show (vs.toArray.zip vs.toArray).map (·.2) = vs.toArray
    apply Array.toList_inj.mp
    rw [Array.toList_map]
    simp only [Array.toList_zip]
    exact zip_snd vs
  rw [hout]
  refine wpAny_bind (seqEpoch_at (s := { s with heap := H }) ho6 rfl ?_)
  refine wpAny_bind (listUpdate_at (s := { s with heap := H }) ho6 rfl ?_ (Nat.zero_le _) (by rw [List.size_toArray, sizeLine_eq]; omega))
  simp only [bne_self_eq_false, Bool.false_eq_true, if_false]
  refine wpAny_pure (h e2 _ (kas_fr F3 s4 haL ha0) fun p hp => ?_)
  rcases List.mem_cons.mp hp with rfl | hp
  · exact ⟨ho2, haL, ha0⟩
  · exact kas_news N2 s4 hna _ hp
theorem short_sorted {h₀ : Heap} {L l : Addr} {m : PySem.Str → Option Value} {news : List (Addr × Obj)} {vs : List Value} {Q : Value → Shared → Prop} (F : Fr h₀ L s.heap m) (N : News h₀ L s.heap news) (hl : s.heap.IsList l vs.toArray) (h2 : vs.length < 2)
    (h : ∀ D e1 h', Fr h₀ L h' m → News h₀ L h' ((D, seqObj "list" vs.toArray e1) :: news) → (∀ q ∈ news, q.1 < D) → Q (.ref D) { s with heap := h' }) :
    wpAny (model prog w) A (call (.builtin "sorted") [.ref l]) Q E s := by
  refine Calls.call_function_entry kind_sorted plain_sorted entry_sorted (args_sorted1 _) ?_
  unfold Builtin.«sorted»
  refine wpAny_bind (m := checkCount "sorted" 1 1 _) (wpAny_pure ?_)
  refine wpAny_bind (collect_list hl ?_ (by rw [sizeLine_eq]; omega))
  refine wpAny_bind (wpAny_newList ?_ (by rw [sizeLine_eq]; omega))
  have hsz : ((s.heap.push (seqObj "list" #[] 0)).update s.heap.objs.size (Obj.mapSeq (· ++ vs.toArray))).objs.size = s.heap.objs.size + 1 := by
    rw [Heap.size_update, size_push']
  have hoL : (((s.heap.push (seqObj "list" #[] 0)).update s.heap.objs.size (Obj.mapSeq (· ++ vs.toArray))).push (seqObj "list" vs.toArray 0)).get? (s.heap.objs.size + 1) = some (seqObj "list" vs.toArray 0) := by
    rw [← hsz]; exact Heap.get?_push_size _ rfl
  have keep : ∀ b o, s.heap.get? b = some o → (((s.heap.push (seqObj "list" #[] 0)).update s.heap.objs.size (Obj.mapSeq (· ++ vs.toArray))).push (seqObj "list" vs.toArray 0)).get? b = some o := fun b o q => by
    have hlt : b < s.heap.objs.size := Heap.lt_size q
    rw [Heap.get?_push_ne _ _ _ (by rw [hsz]; exact Nat.ne_of_lt (Nat.lt_succ_of_lt hlt)), Heap.get?_update_ne _ _ _ _ (Nat.ne_of_lt hlt), Heap.get?_push_ne _ _ _ (Nat.ne_of_lt hlt)]
    exact q
  have hL : L < s.heap.objs.size := F.ns.lt
  show wpAny _ _ _ _ _ { s with heap := ((s.heap.push (seqObj "list" #[] 0)).update s.heap.objs.size (Obj.mapSeq (· ++ vs.toArray))).push (seqObj "list" vs.toArray 0) }
  rw [hsz]
  refine wpAny_bind (wpAny_holding (wpAny_call_entry slot_list_sort ⟨_, hoL, rfl⟩ entry_list_sort ?body (args_list_sort _)))
  case body =>
    refine short_list_sort (s := { s with heap := ((s.heap.push (seqObj "list" #[] 0)).update s.heap.objs.size (Obj.mapSeq (· ++ vs.toArray))).push (seqObj "list" vs.toArray 0) })
      (F.kept keep) (N.grown keep) hoL (Nat.ne_of_gt (Nat.lt_succ_of_lt hL)) (Heap.get?_none_of_le (Nat.le_trans F.above (Nat.le_succ_of_le (Nat.le_of_lt hL))))
      (fun p hp => Nat.ne_of_lt (Nat.lt_succ_of_lt (Heap.lt_size (N p hp).1))) h2 fun e1 h' F' N' => ?_
    exact ⟨_, rfl, wpAny_pure ⟨_, rfl, h _ e1 h' F' N' fun q hq => Nat.lt_succ_of_lt (Heap.lt_size (N q hq).1)⟩⟩
end
section
variable {G : GP} {c : FC} {ρ : LE} {σ : AH} {n : Nat} {Q : Value → AH → Prop}
/-- what the rows of a list hold -/
noncomputable def RowsAt (σ : AH) (zs : List (Addr × List Int)) : Prop := ∀ z ∈ zs, σ z.1 = some (.tup (z.2.map vi)) ∧ z.2 ≠ []
theorem kat_rows {h : Heap} : ∀ (zs : List (Addr × List Int)), (∀ z ∈ zs, ∃ us : Array Value, ∃ k o, h.get? z.1 = some o ∧ o.cls = .type "tuple" ∧ o.data = .seq us k ∧ us.toList.map er = z.2.map vi ∧ z.2 ≠ []) →
    ∃ fs, KatTups h (zs.map fun z => Value.ref z.1) fs ∧ fs.length = zs.length ∧ ∀ f ∈ fs, ∃ i t, f = .int i t
  | [], _ => ⟨[], trivial, rfl, fun _ h => nomatch h⟩
  | z :: zs, H => by
    obtain ⟨fs, h1, h2, h3⟩ := kat_rows zs fun z' hz => H z' (.tail _ hz)
    obtain ⟨us, k, o, ho, hc, hd, he, hn⟩ := H z (.head _)
    cases hz : z.2 with
    | nil => exact absurd hz hn
    | cons i is =>
      rw [hz] at he
      cases hu : us.toList with
      | nil => rw [hu] at he; simp at he
      | cons u us' =>
        rw [hu] at he
        simp only [List.map_cons, List.cons.injEq] at he
        obtain ⟨t, rfl⟩ := er_int he.1
        refine ⟨.int i t :: fs, KatTups.cons ho hc hd ?_ h1, by rw [List.length_cons, h2, List.length_cons], fun f hf => ?_⟩
        · rw [← Array.getElem?_toList, hu]; rfl
        · rcases List.mem_cons.mp hf with rfl | hf
          · exact ⟨_, _, rfl⟩
          · exact h3 f hf
theorem j_sorted {a : Addr} {zs : List (Addr × List Int)} (ha : σ a = some (.list (zs.map fun z => .ref z.1))) (hr : RowsAt σ zs) (hz : zs.length < 64)
    (h : ∀ (D : Addr) (zs' : List (Addr × List Int)), σ D = none → zs'.Perm zs → zs'.Pairwise (fun x y => ltL y.2 x.2 = false) → Q (.ref D) (upd σ D (.list (zs'.map fun z => .ref z.1)))) : JE G c ρ σ (call (.builtin "sorted") [.ref a]) Q := .mk fun Φ s E S => by
  have S0 := S
  obtain ⟨us, hl, e⟩ := S.isList ha
  have eu : us.toList = zs.map fun z => Value.ref z.1 := by
    have := er_refs (us := us.toList) (as := zs.map (·.1)) (by rw [e, List.map_map]; rfl)
    rw [this, List.map_map]; rfl
  have hus : us = (zs.map fun z => Value.ref z.1).toArray := by rw [← eu]
  rw [hus] at hl
  obtain ⟨m, news, F, N, r, R⟩ := S
  have done : ∀ (zs' : List (Addr × List Int)) D e1 h', zs'.Perm zs → zs'.Pairwise (fun x y => ltL y.2 x.2 = false) → Fr c.h₀ c.L h' m → News c.h₀ c.L h' ((D, listOf (zs'.map fun z => Value.ref z.1).toArray e1) :: news) → (∀ q ∈ news, q.1 < D) →
      Sm s { s with heap := h' } ∧ ∃ σ', Q (er (.ref D)) σ' ∧ St Φ c ρ σ' { s with heap := h' } := fun zs' D e1 h' hp hs F' N' lt =>
    ⟨⟨rfl, rfl, rfl⟩, _, h D zs' (R.none_of_fresh fun p hp => Nat.ne_of_lt (lt p hp)) hp hs, m, _, F', N', r, R.push (fun p hp => Nat.ne_of_lt (lt p hp)) rfl ⟨_, _, rfl, by simp [er]⟩⟩
  by_cases h2 : zs.length < 2
  · refine short_sorted F N hl (by rw [List.length_map]; exact h2) fun D e1 h' F' N' lt => done zs D e1 h' (.refl _) ?_ F' N' lt
    match zs, h2 with
    | [], _ => exact .nil
    | [_], _ => exact List.pairwise_singleton _ _
  · have hlen : (zs.map fun z => Value.ref z.1).length = zs.length := List.length_map ..
    refine kat_sorted F N hl (by rw [hlen]; omega) (by rw [hlen]; exact hz) fun D e1 h' F' N' lt => ?_
    have S1 : St Φ c ρ σ { s with heap := h' } := ⟨m, news, F', fun p hp => N' p (.tail _ hp), r, R⟩
    have rows : ∀ z ∈ zs, ∃ us : Array Value, ∃ k o, h'.get? z.1 = some o ∧ o.cls = .type "tuple" ∧ o.data = .seq us k ∧ us.toList.map er = z.2.map vi ∧ z.2 ≠ [] := fun z hz => by
      obtain ⟨us, ⟨o, ho, hc, k, hd⟩, e'⟩ := S1.isTup (hr z hz).1
      exact ⟨us, k, o, ho, hc, hd, e', (hr z hz).2⟩
    obtain ⟨fs, k1, k2, k3⟩ := kat_rows zs rows
    refine kat_kind (T := .type "int") k1 (by rw [k2]; omega) (fun v hv => ?_) rfl ?_
    · obtain ⟨i, t, rfl⟩ := k3 v hv; exact .now
    · show KasT.kasWp (kas_ask (model pr G.w).prog G.w c.A.in1.in1 (tuples' true) (zs.map fun z => Value.ref z.1)) _ _ _
      rw [hlen]
      refine Hold.wp (n := zs.length) (lt := fun i j => ltL (zs.getD i (0, [])).2 (zs.getD j (0, [])).2) (fun i j C hi hj hC => ?_) (Q := fun q => PV zs.length q ∧ Srt (fun i j => ltL (zs.getD i (0, [])).2 (zs.getD j (0, [])).2) q zs.length) (fun q hq => ?_) (sort_ok (ord_ltL fun i => (zs.getD i (0, [])).2) (by omega))
      · unfold kas_ask
        have gi : ∀ i, i < zs.length → (zs.map fun z => Value.ref z.1).getD i Value.none = .ref (zs.getD i (0, [])).1 ∧ zs.getD i (0, []) ∈ zs := fun i hi => by
          simp [List.getD, hi]
        obtain ⟨gi1, gi2⟩ := gi i hi
        obtain ⟨gj1, gj2⟩ := gi j hj
        rw [gi1, gj1]
        obtain ⟨us, k, o, ho, hc, hd, he, hn⟩ := rows _ gi2
        obtain ⟨us', k', o', ho', hc', hd', he', hn'⟩ := rows _ gj2
        have z1 : us.size = (zs.getD i (0, [])).2.length := by rw [← List.length_map (f := vi), ← he, List.length_map, Array.length_toList]
        have z2 : us'.size = (zs.getD j (0, [])).2.length := by rw [← List.length_map (f := vi), ← he', List.length_map, Array.length_toList]
        refine kat_lt ho hd ho' hd' (lex_ints _ _ _ _ _ he he' ?_)
        rw [z1, z2, lexF_ltL]
        exact hC
      · obtain ⟨pv, srt⟩ := hq
        refine KasFin.intro F' N' (.head fun q hq => Nat.ne_of_lt (lt q hq)) fun h2 c2 F2 N2 => ?_
        have eout : (q.toList.map fun i => (zs.map fun z => Value.ref z.1).getD i Value.none) = (q.toList.map fun i => zs.getD i (0, [])).map fun z => Value.ref z.1 := by
          rw [List.map_map]
          refine List.map_congr_left fun i hi => ?_
          have hi' : i < zs.length := List.mem_range.mp (pv.perm.mem_iff.mp hi)
          simp [List.getD, hi']
        rw [eout] at N2
        refine done _ D c2 h2 ?_ ?_ F2 N2 lt
        · refine (pv.perm.map _).trans ?_
          have : (List.range zs.length).map (fun i => zs.getD i (0, [])) = zs := List.ext_getElem (by simp) fun i h1 h2 => by simp [List.getD, h2]
          rw [this]
        · rw [List.pairwise_iff_getElem]
          intro i j hi hj hij
          simp only [List.length_map, Array.length_toList, pv.sz] at hi hj
          have := srt i j (by omega) hj
          have ei : ∀ i (hi : i < zs.length), (q.toList.map fun i => zs.getD i (0, []))[i]'(by simp [pv.sz, hi]) = zs.getD (el q i) (0, []) := fun i hi => by
            have : i < q.size := by rw [pv.sz]; exact hi
            simp [el, Array.getD, this]
          rw [ei i hi, ei j hj]
          exact this
end
end Mine
end

section
open PySem PySem.W PyProof.Rows PySem.Spec PySem.Calls
namespace Mine
theorem updF_of_mem {d : Addr} {o : Obj} : ∀ {news : Led}, (keysOf news).Nodup → (d, o) ∈ news → ∃ g, UpdF d o news g
  | [], _, h => nomatch h
  | p :: r, nd, h => by
    simp only [keysOf, List.map_cons, List.nodup_cons] at nd
    by_cases hp : p.1 = d
    · have hn : ∀ q ∈ r, q.1 ≠ d := fun q hq e => nd.1 (by rw [hp, ← e]; exact List.mem_map_of_mem (f := (·.1)) hq)
      have : p = (d, o) := by
        rcases List.mem_cons.mp h with e | h
        · exact e.symm
        · exact absurd rfl (hn _ h)
      subst this
      exact ⟨_, .head hn⟩
    · have h' : (d, o) ∈ r := by
        rcases List.mem_cons.mp h with rfl | h
        · exact absurd rfl hp
        · exact h
      obtain ⟨g, U⟩ := updF_of_mem nd.2 h'
      exact ⟨_, .tail hp U⟩
theorem upd_updF {d : Addr} {o o' : Obj} : ∀ {l l' : Led} {g : Obj → Led}, Upd d o o' l l' → UpdF d o l g → l' = g o'
  | _, _, _, .head _, .head _ => rfl
  | _, _, _, .head _, .tail h _ => absurd rfl h
  | _, _, _, .tail h _, .head _ => absurd rfl h
  | _, _, _, .tail _ u, .tail _ v => by rw [upd_updF u v]
theorem Rep.turnUF {Φ news : Led} {σ : AH} {a : Addr} {o : Obj} (R : Rep ((a, o) :: Φ) news σ) (hne : ∀ p ∈ Φ, p.1 ≠ a) : ∃ g, UpdF a o news g ∧ ∀ o', Rep ((a, o') :: Φ) (g o') σ := by
  have R0 := R
  obtain ⟨dx, RD⟩ := R
  obtain ⟨g, U⟩ := updF_of_mem RD.nodup (RD.fr _ (.head _))
  refine ⟨g, U, fun o' => ?_⟩
  obtain ⟨news', V, R'⟩ := R0.turnF hne o'
  rw [← upd_updF V U]; exact R'

section
variable {G : GP} {c : FC} {ρ : LE} {σ : AH} {n : Nat} {Q : Value → AH → Prop}
abbrev FC.plus (c : FC) (k : Nat) : FC := { c with un := c.un + k }
noncomputable def StM (Φ : Led) (c : FC) (m : PySem.Str → Option Value) (σ : AH) (s : Shared) : Prop := ∃ news, Fr c.h₀ c.L s.heap m ∧ News c.h₀ c.L s.heap news ∧ Rep Φ news σ
theorem StM.st {Φ : Led} {m : PySem.Str → Option Value} {s : Shared} (S : StM Φ c m σ s) : St Φ c [] σ s := by
  obtain ⟨news, F, N, R⟩ := S; exact ⟨m, news, F, N, .nil, R⟩
theorem FC.Ok.plus (O : c.Ok G (n + 1)) {k : Nat} (hk : k ≤ 20) : (c.plus k).Ok G n :=
  ⟨O.bel, O.gd, O.kind, O.loc, O.glo, O.nd, by have := O.room; show c.dp + 4 * n + 10 < _; omega, by have := O.units; show c.un + k + 20 * n + 100 < _; omega⟩
theorem call_lam {f c' : Addr} {oc : Obj} {vs : Array Value} {t : Tok} {name qual : PySem.Str} {params : Arguments} {body : Expr} {scope : Scope} {pm ctv : Value} {Φ : Led} {m : PySem.Str → Option Value} {s : Shared} {E : Value → Shared → Prop} {x : PySem.Str} {u : Value}
    (O : c.Ok G (n + 1)) (S : StM Φ c m σ s) (hf : σ f = some (.raw (kla_obj name qual params body scope [] pm c' ctv))) (hc : σ c' = some (.raw oc)) (hd : oc.data = .fields vs) (hv : vs[1]? = some (.str qual t))
    (hbind : bindArgs (kla_fn name qual params body scope [] pm (.ref c') ctv) ⟨[u], []⟩ = pure [(x, u)])
    (hk : scope.kind = .function) (hco : scope.isCoroutine = false) (hgen : scope.isGenerator = false) (hcell : ∀ x ∈ scope.names, x.2 ≠ .cell) (hloc : scope.names.lookup x = some .local ∧ (x == dbg) = false)
    (hb : ∀ c1 : FC, c1.Ok G n → LocAt c1 0 x → JE G c1 [some (er u)] σ (eval body c1.env) Q) :
    wpAny (MM G.w) c.A (call (.ref f) [u]) (fun v s' => Sm s s' ∧ ∃ σ', Q (er v) σ' ∧ StM Φ c m σ' s') E s := by
  obtain ⟨news, F, N, R⟩ := S
  obtain ⟨o1, hm1, e1⟩ := R.at1 hf rfl
  have e1' : o1 = kla_obj name qual params body scope [] pm c' ctv := e1
  subst e1'
  obtain ⟨o2, hm2, e2⟩ := R.at1 hc rfl
  have e2' : o2 = oc := e2
  subst e2'
  obtain ⟨tp, tl, tme, tmg, tmb, T⟩ := O.gd.top
  have hroom := O.room
  have hun := O.units
  refine wpAny_call (kla_code O.bel F O.gd.K N T rfl rfl O.kind hm1 (codeRec_news N hm2 hd hv) (by show c.dp < _; omega) hbind (fun y hy => ?_) (fun g L' h₁ FG F' N' B' X' T' => ?_) hco hgen hk hcell)
  · rw [List.mem_singleton.mp hy]; exact hloc.1
  · have gd' : Gd G g := O.gd.keeps fun b o e => FG.keep b o e
    let c1 : FC := { dp := c.dp + 1, un := c.un + 3, gd := c.gd, cn := qual, cs := scope, L := L', a := f, ccd := .ref c', cl := [], outer := c.env :: c.outer, A₀ := c.A, base := c.base, h₀ := g, nm := [x], gl := [] }
    have O' : c1.Ok G n := ⟨B', gd', hk, fun y hy => by rw [List.mem_singleton.mp hy]; exact hloc, fun y hy => (nomatch hy), (by simp : ([x] : List PySem.Str).Nodup), by show c.dp + 1 + 4 * n + 10 < _; omega, by show c.un + 3 + 20 * n + 100 < _; omega⟩
    have S' : St Φ c1 [some (er u)] σ { s with heap := h₁, toks := s.toks + [(x, u)].length } := by
      refine ⟨_, news, F', N', fun i y hy v hv => ?_, R⟩
      cases i with
      | zero =>
        have : x = y := Option.some.inj hy
        have : er u = v := Option.some.inj (Option.some.inj hv)
        subst x this
        exact ⟨u, by simp, rfl⟩
      | succ i => exact absurd hy (by simp [c1])
    refine wpAny_mono ((hb c1 O' rfl).run _ _ _ S') (fun v s' ⟨z, σ', hq, m', news', F2, N2, r2, R2⟩ => ?_) fun _ _ x => x
    exact ⟨L', m', news', F2, N2, fun F3 N3 => ⟨z, σ', hq, news', F3, N3, R2⟩⟩
end
/-! a list of none, of one, by key -/
section
variable {prog : Program} {w : World} {A : Around} {E : Value → Shared → Prop} {s : Shared} {h₀ : Heap} {L a kS : Addr} {m : PySem.Str → Option Value} {news : Led} {vs : List Value}
theorem zip_snd2 : ∀ {ks vs : List Value}, ks.length = vs.length → (ks.zip vs).map (fun x => x.2) = vs
  | [], [], _ => rfl
  | [], _ :: _, h => by simp at h
  | _ :: _, [], h => by simp at h
  | k :: ks, v :: vs, h => by rw [List.zip_cons_cons, List.map_cons, zip_snd2 (by simpa using h)]
theorem short_rest {f : Value} {e1 : Nat} {P : PySem.Fin → Shared → Prop} (hk : s.heap.get? kS = some (seqObj "list" #[] 0)) (h2 : vs.length < 2)
    (h : KatKeys prog w A h₀ L m kS f (fun ks e s' => KatFin h₀ L m kS a ks e e1 vs (fun s4 => P (.done (.ret .none)) s4) s') vs [] 0 s) :
    wpAny (model prog w) A (ksk_rest a f false vs.toArray e1 (.ref kS)) P E s := by
  unfold ksk_rest
  refine wpAny_bind (wpAny_rule ?_)
  first
    | rw [List.forIn_toArray]
    | (rw [← Array.forIn_toList]; simp only [List.toList_toArray])
  refine wpAny_bind (wpAny_mono (kat_fold (n := vs.length) (by omega) (fun x ks e s' C hz hx => ?_) vs [] 0 s (by simp) hk h) (fun _ s' hd => ?_) fun _ _ x => x)
  · refine wpAny_bind (wpAny_attempt (wpAny_mono hx (fun k s'' hk => ?_) fun _ _ hF => hF.elim))
    obtain ⟨news', g, F', N', U, c⟩ := hk
    obtain ⟨pre, post, e0, hg, x1, x2⟩ := U.split
    rw [e0] at N'
    have nk := N' (kS, seqObj "list" (List.toArray ks) e) (List.mem_append_right _ (.head _))
    have s1 := Heap.SameBut.update s''.heap kS (Obj.mapSeq (·.push k))
    have ea : (List.toArray ks).push k = List.toArray (ks ++ [k]) := by simp
    obtain ⟨c2, hc2⟩ : ∃ c2, (s''.heap.update kS (Obj.mapSeq (·.push k))).get? kS = some (seqObj "list" (List.toArray (ks ++ [k])) c2) := ⟨_, by rw [← ea]; exact get?_update_seq nk.1 (·.push k)⟩
    try dsimp only
    refine wpAny_bind (listUpdate_at nk.1 rfl ?_ (by rw [List.size_toArray, sizeLine_eq]; omega) (Nat.le_trans (Nat.le_of_eq (Array.size_push ..)) (by rw [List.size_toArray, sizeLine_eq]; omega)))
    exact wpAny_pure ⟨rfl, k, c2, hc2, c _ c2 (kas_fr F' s1 nk.2.1 nk.2.2) (by rw [hg]; exact news_set N' x1 x2 s1 hc2)⟩
  · obtain ⟨ks, e, hk', hl, fin⟩ := hd
    try dsimp only
    refine wpAny_bind (listItems_at hk' rfl ?_)
    unfold ksk_end
    try dsimp only
    have hn2 : vs.toArray.size < 2 := by rw [List.size_toArray]; exact h2
    rw [if_pos hn2, if_pos hn2]
    simp only [Bool.false_eq_true, if_false]
    refine wpAny_bind (wpAny_pure ?_)
    rw [StateT.run_pure]
    refine wpAny_bind (wpAny_pure ?_)
    try dsimp only
    refine kat_tail (out := vs) ?_ (by omega) (by omega) rfl fin
    show ((List.toArray ks).zip vs.toArray).map (·.2) = vs.toArray
    apply Array.toList_inj.mp
    rw [Array.toList_map]
    simp only [Array.toList_zip]
    exact zip_snd2 hl
theorem short_keyed {f : Value} {n : Nat} {P : PySem.Fin → Shared → Prop} (F : Fr h₀ L s.heap m) (N : News h₀ L s.heap news) (ho : s.heap.get? a = some (seqObj "list" vs.toArray n)) (haL : a ≠ L) (ha0 : h₀.get? a = none) (hna : ∀ p ∈ news, p.1 ≠ a)
    (h2 : vs.length < 2)
    (h : ∀ kS e1 h', Fr h₀ L h' m → News h₀ L h' ((kS, seqObj "list" #[] 0) :: (a, seqObj "list" #[] e1) :: news) → a < kS → (∀ q ∈ news, q.1 < kS) →
      KatKeys prog w A h₀ L m kS f (fun ks e s' => KatFin h₀ L m kS a ks e e1 vs (fun s4 => P (.done (.ret .none)) s4) s') vs [] 0 { s with heap := h' }) :
    wpAny (model prog w) A (ksk_tree a f false) P E s := by
  have ha : a < s.heap.objs.size := Heap.lt_size ho
  have s1 := Heap.SameBut.update s.heap a (Obj.mapSeq fun _ => (#[] : Array Value))
  obtain ⟨e1, ho1⟩ : ∃ e1, (s.heap.update a (Obj.mapSeq fun _ => (#[] : Array Value))).get? a = some (seqObj "list" #[] e1) := ⟨_, get?_update_seq ho fun _ => #[]⟩
  have F1 := kas_fr F s1 haL ha0
  have N1 := kas_news N s1 hna
  have hkS : ((s.heap.update a (Obj.mapSeq fun _ => (#[] : Array Value))).push (seqObj "tuple" vs.toArray 0)).objs.size = s.heap.objs.size + 1 := by rw [size_push', Heap.size_update]
  have hLk : L < ((s.heap.update a (Obj.mapSeq fun _ => (#[] : Array Value))).push (seqObj "tuple" vs.toArray 0)).objs.size := (F1.push _).ns.lt
  unfold ksk_tree
  refine wpAny_bind (listItems_at ho rfl ?_)
  refine wpAny_bind (listUpdate_at ho rfl ?_ (by rw [List.size_toArray, sizeLine_eq]; omega) (Nat.zero_le _))
  refine wpAny_bind (seqEpoch_at ho1 rfl ?_)
  refine wpAny_bind (wpAny_newTuple ?_ (by show vs.length ≤ _; rw [sizeLine_eq]; omega))
  refine wpAny_bind (wpAny_newList ?_ (Nat.zero_le _))
  refine wpAny_holding ?_
  refine short_rest (s := { s with heap := ((s.heap.update a (Obj.mapSeq fun _ => (#[] : Array Value))).push (seqObj "tuple" vs.toArray 0)).push (seqObj "list" #[] 0) }) (kS := ((s.heap.update a (Obj.mapSeq fun _ => (#[] : Array Value))).push (seqObj "tuple" vs.toArray 0)).objs.size)
    (Heap.get?_push_size _ rfl) h2 (h _ e1 _ ((F1.push _).push _) (fun p hp => ?_) (by rw [hkS]; exact Nat.lt_succ_of_lt ha) fun q hq => by rw [hkS]; exact Nat.lt_succ_of_lt (Heap.lt_size (N q hq).1))
  rcases List.mem_cons.mp hp with rfl | hp
  · exact ⟨Heap.get?_push_size _ rfl, Nat.ne_of_gt hLk, Heap.get?_none_of_le (Nat.le_trans F.above (Nat.le_of_lt hLk))⟩
  · rcases List.mem_cons.mp hp with rfl | hp
    · exact ⟨Heap.get?_push_of_some _ (Heap.get?_push_of_some _ ho1), haL, ha0⟩
    · exact ⟨Heap.get?_push_of_some _ (Heap.get?_push_of_some _ (N1 p hp).1), (N1 p hp).2⟩
theorem short_sortedK {l : Addr} {f : Value} {kw : List (PySem.Str × Value)} {Q : Value → Shared → Prop} (F : Fr h₀ L s.heap m) (N : News h₀ L s.heap news) (hl : s.heap.IsList l vs.toArray) (h2 : vs.length < 2)
    (ha1 : argsOk "sorted" ⟨[.ref l], kw⟩) (ha2 : ∀ x, argsOk "list.sort" ⟨[.ref x], kw⟩) (ht : ∀ x, Builtin.«list.sort» ⟨[.ref x], kw⟩ = ksk_tree x f false)
    (h : ∀ D kS e1 h', Fr h₀ L h' m → News h₀ L h' ((kS, seqObj "list" #[] 0) :: (D, seqObj "list" #[] e1) :: news) → D < kS → (∀ q ∈ news, q.1 < D) →
      KatKeys prog w A.in1.in1 h₀ L m kS f (fun ks e s' => KatFin h₀ L m kS D ks e e1 vs (fun s4 => Q (.ref D) s4) s') vs [] 0 { s with heap := h' }) :
    wpAny (model prog w) A (call (.builtin "sorted") [.ref l] kw) Q E s := by
  refine call_function_entry_kw kind_sorted plain_sorted entry_sorted ha1 ?_
  unfold Builtin.«sorted»
  refine wpAny_bind (m := checkCount "sorted" 1 1 _) (wpAny_pure ?_)
  refine wpAny_bind (collect_list hl ?_ (by rw [sizeLine_eq]; omega))
  refine wpAny_bind (wpAny_newList ?_ (by rw [sizeLine_eq]; omega))
  have hsz : ((s.heap.push (seqObj "list" #[] 0)).update s.heap.objs.size (Obj.mapSeq (· ++ vs.toArray))).objs.size = s.heap.objs.size + 1 := by
    rw [Heap.size_update, size_push']
  have hoL : (((s.heap.push (seqObj "list" #[] 0)).update s.heap.objs.size (Obj.mapSeq (· ++ vs.toArray))).push (seqObj "list" vs.toArray 0)).get? (s.heap.objs.size + 1) = some (seqObj "list" vs.toArray 0) := by
    rw [← hsz]; exact Heap.get?_push_size _ rfl
  have keep : ∀ b o, s.heap.get? b = some o → (((s.heap.push (seqObj "list" #[] 0)).update s.heap.objs.size (Obj.mapSeq (· ++ vs.toArray))).push (seqObj "list" vs.toArray 0)).get? b = some o := fun b o q => by
    have hlt : b < s.heap.objs.size := Heap.lt_size q
    rw [Heap.get?_push_ne _ _ _ (by rw [hsz]; exact Nat.ne_of_lt (Nat.lt_succ_of_lt hlt)), Heap.get?_update_ne _ _ _ _ (Nat.ne_of_lt hlt), Heap.get?_push_ne _ _ _ (Nat.ne_of_lt hlt)]
    exact q
  have hL : L < s.heap.objs.size := F.ns.lt
  show wpAny _ _ _ _ _ { s with heap := ((s.heap.push (seqObj "list" #[] 0)).update s.heap.objs.size (Obj.mapSeq (· ++ vs.toArray))).push (seqObj "list" vs.toArray 0) }
  rw [hsz]
  refine wpAny_bind (wpAny_holding (wpAny_call_entry_kw slot_list_sort ⟨_, hoL, rfl⟩ entry_list_sort ?body (ha2 _)))
  case body =>
    have ht' := ht (s.heap.objs.size + 1)
    show wpAny (model prog w) A.in1.in1 (Builtin.«list.sort» ⟨[.ref (s.heap.objs.size + 1)], kw⟩) _ _ _
    rw [ht']
    refine short_keyed (s := { s with heap := ((s.heap.push (seqObj "list" #[] 0)).update s.heap.objs.size (Obj.mapSeq (· ++ vs.toArray))).push (seqObj "list" vs.toArray 0) })
      (F.kept keep) (N.grown keep) hoL (Nat.ne_of_gt (Nat.lt_succ_of_lt hL)) (Heap.get?_none_of_le (Nat.le_trans F.above (Nat.le_succ_of_le (Nat.le_of_lt hL))))
      (fun p hp => Nat.ne_of_lt (Nat.lt_succ_of_lt (Heap.lt_size (N p hp).1))) h2 fun kS e1 h' F' N' l0 l1 => ?_
    refine kat_keys_mono (h _ kS e1 h' F' N' l0 fun q hq => Nat.lt_succ_of_lt (Heap.lt_size (N q hq).1)) fun ks e s' hl' hd => ?_
    exact hd.mono fun s4 hq => ⟨_, rfl, wpAny_pure ⟨_, rfl, hq⟩⟩
end
end Mine
end

section
open PySem PySem.W PyProof.Rows PySem.Spec PySem.Calls
namespace Mine
section
variable {G : GP} {c : FC} {ρ : LE} {σ : AH} {n : Nat} {Q : Value → AH → Prop}
/-- what the keys are: a tuple each -/
noncomputable def KeysAt (σ : AH) (kas : List Addr) (keys : List (List Int)) : Prop := kas.length = keys.length ∧ ∀ (i : Nat) (k : Addr) (is : List Int), kas[i]? = some k → keys[i]? = some is → σ k = some (.tup (is.map vi))
theorem KeysAt.snoc {σ σ' : AH} {kas : List Addr} {keys : List (List Int)} (h : KeysAt σ kas keys) (hs : Sub σ σ') {k : Addr} {is : List Int} (hk : σ' k = some (.tup (is.map vi))) : KeysAt σ' (kas ++ [k]) (keys ++ [is]) := by
  refine ⟨by rw [List.length_append, List.length_append, h.1]; rfl, fun i k' is' h1 h2 => ?_⟩
  by_cases hi : i < kas.length
  · rw [List.getElem?_append_left hi] at h1
    rw [List.getElem?_append_left (h.1 ▸ hi)] at h2
    exact hs _ _ (h.2 i k' is' h1 h2)
  · rw [List.getElem?_append_right (Nat.le_of_not_lt hi)] at h1
    rw [List.getElem?_append_right (h.1 ▸ Nat.le_of_not_lt hi), ← h.1] at h2
    cases hj : i - kas.length with
    | zero =>
      rw [hj] at h1 h2
      cases h1; cases h2; exact hk
    | succ j => rw [hj] at h1; simp at h1
/-- the function that gives the key -/
structure LamAt (σ : AH) (f : Addr) (qual : PySem.Str) (params : Arguments) (body : Expr) (scope : Scope) : Prop where
  ex : ∃ c' oc vs t pm ctv, σ f = some (.raw (kla_obj "<lambda>" qual params body scope [] pm c' ctv)) ∧ σ c' = some (.raw oc) ∧ oc.data = .fields vs ∧ vs[1]? = some (.str qual t)
theorem LamAt.sub {τ : AH} {f : Addr} {qual : PySem.Str} {params : Arguments} {body : Expr} {scope : Scope} (h : LamAt σ f qual params body scope) (k : Sub σ τ) : LamAt τ f qual params body scope := by
  obtain ⟨c', oc, vs, t, pm, ctv, h1, h2, r⟩ := h
  exact ⟨c', oc, vs, t, pm, ctv, k _ _ h1, k _ _ h2, r⟩
/-- what the key's function does to a row -/
structure LamOk (G : GP) (n : Nat) (x : PySem.Str) (qual : PySem.Str) (params : Arguments) (body : Expr) (scope : Scope) (key : List Int → List Int) (ok : List Int → Prop) : Prop where
  bind : ∀ (pm cdv ctv : Value) (u : Value), bindArgs (kla_fn "<lambda>" qual params body scope [] pm cdv ctv) ⟨[u], []⟩ = pure [(x, u)]
  kind : scope.kind = .function
  co : scope.isCoroutine = false
  gen : scope.isGenerator = false
  cell : ∀ x ∈ scope.names, x.2 ≠ .cell
  loc : scope.names.lookup x = some .local ∧ (x == dbg) = false
  body : ∀ (c1 : FC) σ (a : Addr) (is : List Int), c1.Ok G n → LocAt c1 0 x → σ a = some (.tup (is.map vi)) → ok is → JE G c1 [some (.ref a)] σ (eval body c1.env) (fun v σ' => ∃ k, v = .ref k ∧ Sub σ σ' ∧ σ' k = some (.tup ((key is).map vi)))
theorem Sub.refl' (σ : AH) : Sub σ σ := fun _ _ e => e
theorem Sub.trans' {a b d : AH} (x : Sub a b) (y : Sub b d) : Sub a d := fun _ _ e => y _ _ (x _ _ e)
theorem keys_run {lx : PySem.Str} {f D kS : Addr} {qual : PySem.Str} {params : Arguments} {body : Expr} {scope : Scope} {key : List Int → List Int} {ok : List Int → Prop} {Φ : Led} {m : PySem.Str → Option Value} {e1 : Nat} {Fin : List Value → Nat → Shared → Prop} {s0 : Shared} {τ : AH}
    (O : c.Ok G (n + 2)) (LO : LamOk G n lx qual params body scope key ok) (hΦD : ∀ p ∈ Φ, p.1 ≠ D) (hΦK : ∀ p ∈ Φ, p.1 ≠ kS) (hDK : D ≠ kS) (keys : List (List Int))
    (hfin : ∀ σ' kas e s', Sub τ σ' → KeysAt σ' kas keys → Sm s0 s' → StM ((kS, seqObj "list" (kas.map Value.ref).toArray e) :: (D, seqObj "list" #[] e1) :: Φ) c m σ' s' → Fin (kas.map Value.ref) e s') :
    ∀ (rest : List (Addr × List Int)) (done : List (List Int)) (kas : List Addr) (e : Nat) (σ : AH) (s : Shared), keys = done ++ rest.map (fun z => key z.2) → (∀ z ∈ rest, σ z.1 = some (.tup (z.2.map vi)) ∧ ok z.2) → LamAt σ f qual params body scope → Sub τ σ → KeysAt σ kas done → Sm s0 s →
      StM ((kS, seqObj "list" (kas.map Value.ref).toArray e) :: (D, seqObj "list" #[] e1) :: Φ) c m σ s →
      KatKeys pr G.w c.A.in1.in1 c.h₀ c.L m kS (.ref f) Fin (rest.map fun z => Value.ref z.1) (kas.map Value.ref) e s
  | [], done, kas, e, σ, s, hk, _, _, sub, KA, z, S => by
    simp only [List.map_nil, List.append_nil] at hk
    subst hk
    exact KatKeys.nil (hfin σ kas e s sub KA z S)
  | r :: rest, done, kas, e, σ, s, hk, hr, LA, sub, KA, z, S => by
    rw [List.map_cons]
    obtain ⟨c', oc, vs, t, pm, ctv, l1, l2, l3, l4⟩ := LA.ex
    have Sp : StM ((kS, seqObj "list" (kas.map Value.ref).toArray e) :: (D, seqObj "list" #[] e1) :: Φ) (c.plus 2) m σ s := S
    have call := call_lam (E := fun _ _ => False) (n := n) (x := lx) (u := .ref r.1) (O.plus (k := 2) (by omega)) Sp l1 l2 l3 l4 (LO.bind _ _ _ _) LO.kind LO.co LO.gen LO.cell LO.loc fun c1 O1 L1 => LO.body c1 σ r.1 r.2 O1 L1 (hr _ (.head _)).1 (hr _ (.head _)).2
    refine KatKeys.cons (wpAny_mono call (fun v s' ⟨z', σ', hv, S'⟩ => ?_) fun _ _ x => x)
    obtain ⟨k, ev, sub', hkt⟩ := hv
    rw [er_ref ev]
    obtain ⟨news, F, N, R⟩ := S'
    have hne : ∀ p ∈ (D, seqObj "list" #[] e1) :: Φ, p.1 ≠ kS := fun p hp => by
      rcases List.mem_cons.mp hp with rfl | hp
      · exact hDK
      · exact hΦK p hp
    obtain ⟨g, U, RU⟩ := R.turnUF hne
    refine KatBack.intro F N U fun h' cc F' N' => ?_
    have e2 : kas.map Value.ref ++ [Value.ref k] = (kas ++ [k]).map Value.ref := by simp
    rw [e2] at N' ⊢
    refine keys_run O LO hΦD hΦK hDK keys hfin rest (done ++ [key r.2]) (kas ++ [k]) cc σ' _ (by rw [hk]; simp) (fun q hq => ⟨sub' _ _ (hr q (.tail _ hq)).1, (hr q (.tail _ hq)).2⟩) (LA.sub sub') (sub.trans' sub') (KA.snoc sub' hkt) (z.trans ⟨z'.1, z'.2.1, z'.2.2⟩) ⟨_, F', N', RU _⟩
/-- the sort by a key, of rows that are in order by it -/
theorem w_sortedK {lx : PySem.Str} {f a : Addr} {qual : PySem.Str} {params : Arguments} {body : Expr} {scope : Scope} {key : List Int → List Int} {ok : List Int → Prop} {zs : List (Addr × List Int)} {Φ : Led} {s : Shared} {E : Value → Shared → Prop}
    (O : c.Ok G (n + 2)) (LO : LamOk G n lx qual params body scope key ok) (LA : LamAt σ f qual params body scope) (ha : σ a = some (.list (zs.map fun z => .ref z.1))) (hr : ∀ z ∈ zs, σ z.1 = some (.tup (z.2.map vi)) ∧ ok z.2) (hn : ∀ z ∈ zs, key z.2 ≠ []) (hz : zs.length < 64)
    (hord : zs.Pairwise fun x y => ltL (key y.2) (key x.2) = false) (S : St Φ c ρ σ s)
    (h : ∀ D, σ D = none → Q (.ref D) (upd σ D (.list (zs.map fun z => .ref z.1)))) :
    wpAny (MM G.w) c.A (call (.builtin "sorted") [.ref a] [(PySem.Str.ofString "key", .ref f)]) (fun v s' => Sm s s' ∧ ∃ σ', Q (er v) σ' ∧ St Φ c ρ σ' s') E s := by
  have S0 := S
  obtain ⟨us, hl, e⟩ := S.isList ha
  have eu : us.toList = zs.map fun z => Value.ref z.1 := by
    have := er_refs (us := us.toList) (as := zs.map (·.1)) (by rw [e, List.map_map]; rfl)
    rw [this, List.map_map]; rfl
  have hus : us = (zs.map fun z => Value.ref z.1).toArray := by rw [← eu]
  rw [hus] at hl
  obtain ⟨m, news, F, N, r, R⟩ := S
  have hlen : (zs.map fun z => Value.ref z.1).length = zs.length := List.length_map ..
  have start : ∀ D kS e1 h', Fr c.h₀ c.L h' m → News c.h₀ c.L h' ((kS, seqObj "list" #[] 0) :: (D, seqObj "list" #[] e1) :: news) → D < kS → (∀ q ∈ news, q.1 < D) →
      StM ((kS, seqObj "list" (([] : List Addr).map Value.ref).toArray 0) :: (D, seqObj "list" #[] e1) :: Φ) c m σ { s with heap := h' } ∧ (∀ p ∈ Φ, p.1 ≠ D) ∧ (∀ p ∈ Φ, p.1 ≠ kS) := fun D kS e1 h' F' N' lt1 lt2 => by
    have hfr : ∀ p ∈ Φ, p ∈ news := by obtain ⟨dx, R⟩ := R; exact R.fr
    refine ⟨⟨_, F', N', ?_⟩, fun p hp => Nat.ne_of_lt (lt2 p (hfr p hp)), fun p hp => Nat.ne_of_lt (Nat.lt_trans (lt2 p (hfr p hp)) lt1)⟩
    refine Rep.hold (Rep.hold R fun p hp => Nat.ne_of_lt (lt2 p hp)) fun p hp => ?_
    rcases List.mem_cons.mp hp with rfl | hp
    · exact Nat.ne_of_lt lt1
    · exact Nat.ne_of_lt (Nat.lt_trans (lt2 p hp) lt1)
  have finish : ∀ D kS e1 e ks s', D ≠ kS → (∀ p ∈ Φ, p.1 ≠ D) → (∀ p ∈ Φ, p.1 ≠ kS) → ∀ σ', Sub σ σ' → Sm s s' → StM ((kS, seqObj "list" (List.toArray ks) e) :: (D, seqObj "list" #[] e1) :: Φ) c m σ' s' →
      KatFin c.h₀ c.L m kS D ks e e1 (zs.map fun z => Value.ref z.1) (fun s4 => Sm s s4 ∧ ∃ σ', Q (er (.ref D)) σ' ∧ St Φ c ρ σ' s4) s' := fun D kS e1 e ks s' hDK h1 h2 σ' sub z S' => by
    obtain ⟨news', F', N', R'⟩ := S'
    have hne : ∀ p ∈ (D, seqObj "list" #[] e1) :: Φ, p.1 ≠ kS := fun p hp => by
      rcases List.mem_cons.mp hp with rfl | hp
      · exact hDK
      · exact h2 p hp
    obtain ⟨g, U, RU⟩ := R'.turnUF hne
    refine KatFin.intro F' N' U fun h' cc F2 N2 => ?_
    have R2 := (RU (seqObj "list" #[] cc)).perm (Φ' := (D, seqObj "list" #[] e1) :: (kS, seqObj "list" #[] cc) :: Φ) fun p hp => by simp only [List.mem_cons] at hp ⊢; rcases hp with h | h | h <;> simp [h]
    have hne2 : ∀ p ∈ (kS, seqObj "list" #[] cc) :: Φ, p.1 ≠ D := fun p hp => by
      rcases List.mem_cons.mp hp with rfl | hp
      · exact Ne.symm hDK
      · exact h1 p hp
    obtain ⟨g2, U2, RU2⟩ := R2.turnUF hne2
    refine KasFin.intro F2 N2 U2 fun h3 c3 F3 N3 => ?_
    have R3 := (RU2 (listOf (List.toArray (zs.map fun z => Value.ref z.1)) c3)).perm (Φ' := (D, listOf (List.toArray (zs.map fun z => Value.ref z.1)) c3) :: Φ) fun p hp => by simp only [List.mem_cons] at hp ⊢; rcases hp with h | h <;> simp [h]
    have R4 := R3.lift (ao := .list (zs.map fun z => Value.ref z.1)) h1 rfl ⟨_, _, rfl, by simp [er]⟩
    have hD : σ D = none := by
      cases q : σ D with
      | none => rfl
      | some o =>
        obtain ⟨dx, RD⟩ := R3
        have := RD.off _ (.head _)
        rw [sub _ _ q] at this; cases this
    refine ⟨⟨z.1, z.2.1, z.2.2⟩, _, h D hD, m, _, F3, N3, r, R4.mono fun b o q => ?_⟩
    by_cases hb : b = D
    · subst hb; rw [upd_self] at q ⊢; exact q
    · rw [upd_other hb] at q ⊢; exact sub _ _ q
  by_cases h2 : zs.length < 2
  · refine short_sortedK F N hl (by rw [hlen]; exact h2) (ksk_s1 _ _) (fun _ => ksk_l1 _ _) (fun _ => ksk_t1 _ _) fun D kS e1 h' F' N' lt1 lt2 => ?_
    obtain ⟨S1, n1, n2⟩ := start D kS e1 h' F' N' lt1 lt2
    exact keys_run (s0 := s) (τ := σ) O LO n1 n2 (Nat.ne_of_lt lt1) (zs.map fun z => key z.2) (fun σ' kas e s' sub KA z S' => finish D kS e1 e _ s' (Nat.ne_of_lt lt1) n1 n2 σ' sub z S') zs [] [] 0 σ _ rfl hr LA (Sub.refl' _) ⟨rfl, fun i k is h => by simp at h⟩ ⟨rfl, rfl, rfl⟩ S1
  · refine kat_sortedK (b := false) F N hl (by rw [hlen]; omega) (by rw [hlen]; exact hz) (ksk_s1 _ _) (fun _ => ksk_l1 _ _) (fun _ => ksk_t1 _ _) fun D kS e1 h' F' N' lt1 lt2 => ?_
    obtain ⟨S1, n1, n2⟩ := start D kS e1 h' F' N' lt1 lt2
    refine keys_run (s0 := s) (τ := σ) O LO n1 n2 (Nat.ne_of_lt lt1) (zs.map fun z => key z.2) (fun σ' kas e s' sub KA z S' => ?_) zs [] [] 0 σ _ rfl hr LA (Sub.refl' _) ⟨rfl, fun i k is h => by simp at h⟩ ⟨rfl, rfl, rfl⟩ S1
    have kl : kas.length = zs.length := by rw [KA.1, List.length_map]
    have rows : ∀ i (hi : i < zs.length), ∃ us : Array Value, ∃ k o, s'.heap.get? (kas[i]'(by omega)) = some o ∧ o.cls = .type "tuple" ∧ o.data = .seq us k ∧ us.toList.map er = (key zs[i].2).map vi := fun i hi => by
      obtain ⟨us, ⟨o, ho, hc, k, hd⟩, e'⟩ := S'.st.isTup (KA.2 i _ (key zs[i].2) (List.getElem?_eq_getElem (by omega)) (by simp [hi]))
      exact ⟨us, k, o, ho, hc, hd, e'⟩
    obtain ⟨fs, k1, k2, k3⟩ := kat_rows (h := s'.heap) (kas.zip (zs.map fun z => key z.2)) fun z hz => by
      obtain ⟨i, hi, rfl⟩ := List.mem_iff_getElem.mp hz
      have hi' : i < zs.length := by simp at hi; omega
      obtain ⟨us, k, o, ho, hc, hd, e'⟩ := rows i hi'
      exact ⟨us, k, o, by simpa using ho, hc, hd, by simpa using e', by simpa using hn _ (List.getElem_mem hi')⟩
    have ek : (kas.zip (zs.map fun z => key z.2)).map (fun z => Value.ref z.1) = kas.map Value.ref := by
      have : (kas.zip (zs.map fun z => key z.2)).map (fun z => z.1) = kas := by
        rw [List.map_fst_zip]; rw [List.length_map]; omega
      exact (List.map_map (g := Value.ref) (f := fun z : Addr × List Int => z.1) (l := kas.zip (zs.map fun z => key z.2))).symm.trans (congrArg (List.map Value.ref) this)
    rw [ek] at k1
    refine kat_kind (T := .type "int") k1 (by rw [k2]; simp; omega) (fun v hv => ?_) rfl ?_
    · obtain ⟨i, t, rfl⟩ := k3 v hv; exact .now
    · rw [hlen]
      refine Hold.wp (n := zs.length) (lt := fun i j => ltL ((zs.map fun z => key z.2).getD i []) ((zs.map fun z => key z.2).getD j [])) (fun i j C hi hj hC => ?_) (Q := fun q => q = List.toArray (List.range zs.length)) (fun q hq => ?_)
        (sort_same (ord_ltL fun i => (zs.map fun z => key z.2).getD i []) (by omega) fun i j hij hj => ?_)
      · unfold kas_ask
        have gi : ∀ i (hi : i < zs.length), (katRev false (kas.map Value.ref)).getD i Value.none = .ref (kas[i]'(by omega)) ∧ (zs.map fun z => key z.2).getD i [] = key zs[i].2 := fun i hi => by
          have : i < kas.length := by omega
          simp [katRev, List.getD, hi, this]
        obtain ⟨gi1, gi2⟩ := gi i hi
        obtain ⟨gj1, gj2⟩ := gi j hj
        rw [gi1, gj1]
        try dsimp only at hC
        rw [gi2, gj2] at hC
        obtain ⟨us, k, o, ho, hc, hd, he⟩ := rows i hi
        obtain ⟨us', k', o', ho', hc', hd', he'⟩ := rows j hj
        have z1 : us.size = (key zs[i].2).length := by rw [← List.length_map (f := vi), ← he, List.length_map, Array.length_toList]
        have z2 : us'.size = (key zs[j].2).length := by rw [← List.length_map (f := vi), ← he', List.length_map, Array.length_toList]
        refine kat_lt ho hd ho' hd' (lex_ints _ _ _ _ _ he he' ?_)
        rw [z1, z2, lexF_ltL]
        exact hC
      · subst hq
        have eout : katRev false ((List.toArray (List.range zs.length)).toList.map fun i => (katRev false (zs.map fun z => Value.ref z.1)).getD i Value.none) = zs.map fun z => Value.ref z.1 :=
          List.ext_getElem (by simp [katRev]) fun i h1 h2 => by
            have : i < zs.length := by simpa using h2
            simp [katRev, List.getD, this]
        rw [eout]
        exact finish D kS e1 e _ s' (Nat.ne_of_lt lt1) n1 n2 σ' sub z S'
      · by_cases he : i = j
        · subst he; exact (ord_ltL fun i => (zs.map fun z => key z.2).getD i []).irr _
        · have := (List.pairwise_iff_getElem.mp hord) i j (by omega) hj (by omega)
          have hi : i < zs.length := by omega
          simpa [List.getD, hi, hj] using this
end
end Mine
end

section
open PySem PySem.W PyProof.Rows PySem.Spec PySem.Calls
namespace Mine
section
variable {G : GP} {c : FC} {ρ : LE} {σ : AH} {n : Nat} {Q : Value → AH → Prop}
theorem j_lambda {P c0 : Addr} {params : Arguments} {body : Expr} {scope : Scope} {pos : Pos} (O : c.Ok G n) (hccd : c.ccd = .ref c0) (hcode : codeHdIn (Mine.hd.heap_39 G.w.params) c0 P = true) (hP : σ P = some (.raw (tabObj #[]))) (hcl : closureFor scope c.env = pure []) (hdef : defaultsOf params c.env = ([], []))
    (h : ∀ f ps τ, τ P = some (.raw (tabObj ps)) → (∀ a o, a ≠ P → σ a = some o → τ a = some o) → σ f = none → LamAt τ f (c.env.qual ++ "<lambda>") params body scope → Q (.ref f) τ) : JE G c ρ σ (eval (.Lambda params body scope pos) c.env) Q := .mk fun Φ s E S => by
  obtain ⟨m, news, F, N, r, R⟩ := S
  obtain ⟨tp, tl, tme, tmg, tmb, T⟩ := O.gd.top
  obtain ⟨o0, hm0, e0⟩ := R.at1 hP rfl
  have e0' : o0 = tabObj #[] := e0
  subst e0'
  obtain ⟨g, U⟩ := updF_of_mem (by obtain ⟨dx, R⟩ := R; exact R.nodup) hm0
  refine kla_eval hdef (kla_nest F N T (codeHd_of_K O.gd.K hcode) hccd U trivial rfl hcl fun f c' oc vs t ctv h' tk F' N' hd hv l1 l2 => ?_)
  generalize hno : tabObj (#[] ++ #[rawInt pos.line, rawInt pos.col, .ref c']) = no at N'
  obtain ⟨o1, hm1, e1, tn⟩ := R.turn (ao' := .raw no) hP rfl rfl
  have e1' : o1 = tabObj #[] := e1
  subst e1'
  obtain ⟨news', V, R'⟩ := tn no rfl
  rw [← upd_updF V U] at N'
  have hks : ∀ p ∈ news', p.1 < c' := fun p hp => by
    obtain ⟨pre, post, e1, e2, _, _⟩ := V.split
    rw [e2] at hp
    have : p.1 ∈ keysOf news := by
      rw [e1]
      simp only [keysOf, List.map_append, List.map_cons, List.mem_append, List.mem_cons]
      rcases List.mem_append.mp hp with hp | hp
      · exact .inl (List.mem_map_of_mem (f := (·.1)) hp)
      · rcases List.mem_cons.mp hp with rfl | hp
        · exact .inr (.inl rfl)
        · exact .inr (.inr (List.mem_map_of_mem (f := (·.1)) hp))
    obtain ⟨q, hq, e⟩ := List.mem_map.mp this
    rw [← e]; exact l1 q hq
  have R2 := R'.push (a := c') (o := oc) (ao := .raw oc) (fun p hp => Nat.ne_of_lt (hks p hp)) rfl rfl
  have R3 := R2.push (a := f) (o := _) (ao := .raw (kla_obj "<lambda>" (c.env.qual ++ "<lambda>") params body scope [] ((tmg "__name__").getD .none) c' ctv)) (fun p hp => by
    rcases List.mem_cons.mp hp with rfl | hp
    · exact Nat.ne_of_lt l2
    · exact Nat.ne_of_lt (Nat.lt_trans (hks p hp) l2)) rfl rfl
  have hPc : P < c' := l1 _ hm0
  have nf : σ f = none := R.none_of_fresh fun p hp => Nat.ne_of_lt (Nat.lt_trans (l1 p hp) l2)
  have nc : σ c' = none := R.none_of_fresh fun p hp => Nat.ne_of_lt (l1 p hp)
  have hcf : c' ≠ f := Nat.ne_of_lt l2
  refine ⟨⟨rfl, rfl, rfl⟩, _, h f (#[] ++ #[rawInt pos.line, rawInt pos.col, .ref c']) _ ?_ (fun a o ha e => ?_) nf ⟨c', oc, vs, t, (tmg "__name__").getD .none, ctv, ?_, ?_, hd, hv⟩, m, _, F', N', r, R3⟩
  · rw [upd_other (Nat.ne_of_lt (Nat.lt_trans hPc l2)), upd_other (Nat.ne_of_lt hPc), upd_self, hno]
  · rw [upd_other, upd_other, upd_other ha]; exact e
    · rintro rfl; rw [nc] at e; cases e
    · rintro rfl; rw [nf] at e; cases e
  · rw [upd_self]
  · rw [upd_other hcf, upd_self]
theorem eval_CallKw (x : PySem.Str) (xp : Pos) (args : List Expr) (k : Keyword) (ks : List Keyword) (p : Pos) (env : Env) : eval (.Call (.Name x xp) args (k :: ks) p) env = (do callWith p (← eval (.Name x xp) env) [] (backTo p (starEach args env)) (backToKw p (keywordEach (k :: ks) env))) := rfl
theorem je_sorted {x : PySem.Str} {xp p : Pos} {e : Expr} {m : Nat} (O : c.Ok G m) (g : GlAt c x) (T : TopB G x (.builtin "sorted"))
    (h : JE G c ρ σ (eval e c.env) (fun v σ1 => ∃ (a : Addr) (zs : List (Addr × List Int)), v = .ref a ∧ σ1 a = some (.list (zs.map fun z => .ref z.1)) ∧ RowsAt σ1 zs ∧ zs.length < 64 ∧
      ∀ (D : Addr) (zs' : List (Addr × List Int)), σ1 D = none → zs'.Perm zs → zs'.Pairwise (fun x y => ltL y.2 x.2 = false) → Q (.ref D) (upd σ1 D (.list (zs'.map fun z => .ref z.1))))) (he : starEach [e] c.env = (false, eval e c.env) :: starEach [] c.env := by rfl) : JE G c ρ σ (eval (.Call (.Name x xp) [e] [] p) c.env) Q := by
  refine je_callb O g T (.mk fun Φ s E S => ?_) he rfl
  refine args_cons (wpAny_mono (h.run Φ s E S) (fun w s1 ⟨z, σ2, h3, S1⟩ => args_nil ⟨z, σ2, ?_, S1⟩) fun _ _ x => x) he
  obtain ⟨a, zs, ew, ha, hr, hz, hq⟩ := h3
  rw [er_ref ew]
  exact j_sorted ha hr hz hq
theorem je_sortedK {lx : PySem.Str} {x : PySem.Str} {xp p kp pos : Pos} {e : Expr} {P c0 : Addr} {params : Arguments} {body : Expr} {scope : Scope} {key : List Int → List Int} {ok : List Int → Prop} (O : c.Ok G (n + 2)) (g : GlAt c x) (T : TopB G x (.builtin "sorted"))
    (LO : LamOk G n lx (c.env.qual ++ "<lambda>") params body scope key ok) (hccd : c.ccd = .ref c0) (hcode : codeHdIn (Mine.hd.heap_39 G.w.params) c0 P = true) (hcl : closureFor scope c.env = pure []) (hdef : defaultsOf params c.env = ([], []))
    (h : JE G c ρ σ (eval e c.env) (fun v σ1 => σ1 P = some (.raw (tabObj #[])) ∧ ∃ (a : Addr) (zs : List (Addr × List Int)), v = .ref a ∧ σ1 a = some (.list (zs.map fun z => .ref z.1)) ∧ (∀ z ∈ zs, σ1 z.1 = some (.tup (z.2.map vi)) ∧ ok z.2 ∧ key z.2 ≠ []) ∧ zs.length < 64 ∧
      zs.Pairwise (fun x y => ltL (key y.2) (key x.2) = false) ∧ ∀ (D : Addr) (τ : AH), (∀ a o, a ≠ P → σ1 a = some o → τ a = some o) → σ1 D = none → τ D = some (.list (zs.map fun z => .ref z.1)) → (∃ ps, τ P = some (.raw (tabObj ps))) → Q (.ref D) τ)) (he : starEach [e] c.env = (false, eval e c.env) :: starEach [] c.env := by rfl) :
    JE G c ρ σ (eval (.Call (.Name x xp) [e] [⟨some "key", .Lambda params body scope pos, kp⟩] p) c.env) Q := by
  rw [eval_CallKw]
  refine J.bind (j_bname O g T.at_ T.boot T.ne (.mk fun Φ s E S => ?_))
  refine callWith_kw ?_ (by rw [he]; rfl) (by rw [he]; rfl)
  refine args_cons (wpAny_mono (h.run Φ s E S) (fun w s1 ⟨z, σ2, h3, S1⟩ => args_nil ?_) fun _ _ x => x) he
  obtain ⟨hP, a, zs, ew, ha, hr, hz, hord, hq⟩ := h3
  rw [er_ref ew]
  have haP : a ≠ P := by rintro rfl; rw [hP] at ha; cases ha
  refine kws_cons (wpAny_mono ((j_lambda (Q := fun v τ => ∃ f, v = .ref f ∧ (∃ ps, τ P = some (.raw (tabObj ps))) ∧ (∀ a o, a ≠ P → σ2 a = some o → τ a = some o) ∧ LamAt τ f (c.env.qual ++ "<lambda>") params body scope) O hccd hcode hP hcl hdef fun f ps τ hp hs _ LA => ⟨f, rfl, ⟨ps, hp⟩, hs, LA⟩).run Φ s1 E S1) (fun v s2 ⟨z2, τ, hf, S2⟩ => kws_nil ?_) fun _ _ x => x)
  obtain ⟨f, ev, ⟨ps, hP2⟩, hs, LA⟩ := hf
  rw [er_ref ev]
  refine wpAny_mono (w_sortedK (Q := fun v τ' => Q v τ') (E := E) O LO LA (hs _ _ haP ha) (fun z hz => ⟨hs _ _ (fun q => ?_) (hr z hz).1, (hr z hz).2.1⟩) (fun z hz => (hr z hz).2.2) hz hord S2 fun D hD => ?_) (fun v s3 ⟨z3, σ3, hq3, S3⟩ => ⟨z.trans (z2.trans z3), σ3, hq3, S3⟩) fun _ _ x => x
  · have := (hr z hz).1; rw [q, hP] at this; cases this
  · have hD2 : D ≠ P → σ2 D = none := fun hne => by
      cases q : σ2 D with
      | none => rfl
      | some o => rw [hs _ _ hne q] at hD; cases hD
    have hDP : D ≠ P := by rintro rfl; rw [hD] at hP2; cases hP2
    refine hq D _ (fun b o hb e => ?_) (hD2 hDP) upd_self ⟨ps, by rw [upd_other (Ne.symm hDP)]; exact hP2⟩
    rw [upd_other]; exact hs _ _ hb e
    rintro rfl; rw [hD2 hDP] at e; cases e
end
end Mine
end

section
open PySem PySem.W PyProof.Rows PySem.Spec PySem.Calls PySem.Builtin PySem.Builtin.ObjectAttr
namespace Mine
abbrev cExc : Addr := 51
abbrev mroR : List Value := [.ref 51, .ref 38, .type "Exception", .type "BaseException", .type "object"]
abbrev excObj (d : Option Addr) (t : Addr) : Obj := { cls := .ref cExc, dict := d, data := .fields #[.ref t, .none, .none, .none, .bool false, .none] }
theorem exc_passes (self : Value) : refuseLoop self "__setattr__" mroR = pure () := by
  rw [refuseLoop_ref, refuseLoop_ref]
  exact PySem.F.store_Exception.passes self
theorem exc_set (G : GP) : findIn (Mine.hd.heap_39 G.w.params) (.ref cExc) "__setattr__" = some (some (.builtin "object.__setattr__")) := by k_is
theorem exc_taker (G : GP) : takerIn (Mine.hd.heap_39 G.w.params) cExc "message" = some none := by k_is
section
variable {prog : Program} {w : World} {A : Around} {E : Value → Shared → Prop} {s : Shared} {K : Frag} {x C : Addr} {name : PySem.Str} {v : Value}
theorem exc_open {R : Result → Shared → Prop} {ox : Obj} {od : Option Obj} {tk : Tok} {cd : ClassData} (X : K.In s.heap) (I : InstAt s.heap x ox C od) (hc : clsIn K C = some cd) (hm : cd.mro = mroR) (ht : takerIn K C name = some none)
    (h : ∀ b, wpAny (model prog w) A.in1 (storeInOwnDict (.ref x) (.ref C) (.str name tk) name v b)
      (fun fin s' => match fin with | .done f => R (.ok f) s' | .again c' => c'.quiet = true ∧ codeAny (model prog w) A c' R s') (fun e s' => R (.error e) s') s) :
    codeAny (model prog w) A (.call (.builtin "object.__setattr__") ⟨[.ref x, .str name tk, v], []⟩) R s := by
  have SF := PySem.F.store_object
  have sub : Looks (model prog w) s.heap (isInstance (.ref x) (.type "object")) true := I.type.andThen (looks_mroIn X (by unfold mroIn; rw [hc, Option.bind_some, hm]; rfl))
  refine codeAny_call_builtin SF.slot.plain SF.entry (@check_slot (model prog w) _ _ s "object.__setattr__" "object" "__setattr__" (.ref x) [.str name tk, v] [] _ SF.kind SF.split sub (SF.args (.ref x) (.str name tk) v) ?_)
  obtain ⟨attr, ha, hr⟩ := Option.bind_eq_some_iff.mp ht
  have hm' : Looks (model prog w) s.heap (mroOf (.ref C)) cd.mro := (looks_clsIn X hc).andThen .now
  have L3 : Looks (model prog w) s.heap (storeTaker? attr) none := by
    cases attr with
    | none => cases hr; exact .now
    | some a =>
      obtain ⟨b, hb, hb2⟩ := Option.map_eq_some_iff.mp hr
      refine (looks_takesIn X hb).andThen ?_
      cases b
      · exact .now
      · cases hb2
  rw [osa_eq, refuse_eq]
  refine wpAny_bind (wpAny_bind (I.type.here (wpAny_bind (hm'.here ?_))))
  rw [hm, exc_passes]
  refine wpAny_pure (wpAny_bind (I.type.here (wpAny_bind ((looks_findIn X ha).here (wpAny_bind (L3.here ?_))))))
  exact h _
theorem exc_store {Q : Unit → Shared → Prop} {ox : Obj} {cd : ClassData} {vs : Array Value} (X : K.In s.heap) (hx : s.heap.get? x = some ox) (hcl : ox.cls = .ref C) (hdn : ox.dict = none) (hdt : ox.data = .fields vs) (hc : clsIn K C = some cd) (hm : cd.mro = mroR) (hd : cd.hasDict = true) (ht : takerIn K C name = some none)
    (hs : findIn K (.ref C) "__setattr__" = some (some (.builtin "object.__setattr__")))
    (h : ∀ h' d tk, (∀ b o, b ≠ x → s.heap.get? b = some o → h'.get? b = some o) → h'.get? x = some { ox with dict := some d } → Q () { s with heap := h', toks := tk }) :
    wpAny (model prog w) A (setAttr (.ref x) name v) Q E s := by
  obtain ⟨oc, odd, odt, osl⟩ := ox
  dsimp only at hcl hdn hdt
  subst hcl hdn hdt
  have I : InstAt s.heap x ⟨.ref C, none, .fields vs, osl⟩ C none := ⟨hx, rfl, rfl, trivial⟩
  refine set_plain X I hs (exc_open (s := { s with toks := s.toks + 1 }) X I hc hm ht fun b => ?_)
  have hxs : x ≠ s.heap.objs.size := Nat.ne_of_lt (Heap.lt_size hx)
  refine wpAny_bind (wpAny_pure (wpAny_bind (wpAny_bind (wpAny_loadPart hx (wpAny_bind ((show Looks (model prog w) ({ s with toks := s.toks + 1 } : Shared).heap (classData C) cd from looks_clsIn X hc).here ?_))))))
  rw [hd]
  have hx₁ : (s.heap.push { cls := .type "dict", data := .dict #[] }).get? x = some ⟨.ref C, none, .fields vs, osl⟩ := Heap.get?_push_of_some _ hx
  have hgd : ((s.heap.push { cls := .type "dict", data := .dict #[] }).update x fun o => { cls := o.cls, dict := some s.heap.objs.size, data := o.data, slots := o.slots }).get? s.heap.objs.size
      = some { cls := .type "dict", data := .dict #[] } :=
    (Heap.get?_update_ne _ _ _ _ hxs.symm).trans (Heap.get?_push_at rfl rfl)
  have hnd : ((s.heap.push { cls := .type "dict", data := .dict #[] }).update x fun o => { cls := o.cls, dict := some s.heap.objs.size, data := o.data, slots := o.slots }).Ns s.heap.objs.size (fun _ => none) :=
    ⟨_, #[], _, hgd, rfl, fun e he => absurd he (by simp), fun _ => rfl⟩
  refine wpAny_bind (wpAny_alloc' ?_)
  refine wpAny_bind (wpAny_update' hx₁ ?_)
  refine wpAny_pure ?_
  show wpAny _ _ (storeInDict s.heap.objs.size (.str name s.toks) name v) _ _ _
  unfold storeInDict newKeyGuard
  refine wpAny_bind (wpAny_pure (wpAny_bind (wpAny_nsSet1 (Heap.Ns1.of_empty hnd) fun h' hn' hs => ?_)))
  obtain ⟨oD, esD, epD, hoD, hdD, hcD⟩ := hn'.count (Within.cons name v Within.nil)
  refine wpAny_bind (wpAny_lookBehind hoD (by rw [hdD]; exact pastItsLine_dict (Nat.le_trans hcD (by rw [List.length_cons, List.length_nil, sizeLine_eq]; omega))) ?_)
  refine wpAny_pure (h h' s.heap.objs.size _ (fun b o hb e => (hs.2 b (Nat.ne_of_lt (Heap.lt_size e))).trans ((Heap.get?_update_ne _ _ _ _ hb).trans (Heap.get?_push_of_some _ e))) ?_)
  exact (hs.2 x hxs).trans (Heap.get?_update_self _ hx₁ rfl)
end
end Mine
end

section
open PySem PySem.W PyProof.Rows PySem.Spec PySem.Calls PySem.Builtin PySem.Builtin.ObjectAttr
namespace Mine
abbrev bmE : List Value := [.type "Exception", .type "BaseException", .type "object"]
section
variable {nm q : PySem.Str} {C N A38 : Addr} {bs : List Value} {hdct : Bool} {sn : List PySem.Str} {sub : List Value} {ab : Bool} {col : Option Bool} {dd : Option Addr} {k0 k1 k2 k3 k5 : Option Value} {newId initId : String}
section
variable {M : Model} {A : Around} {E : Value → Shared → Prop} {h : Heap} {g : Array GenState} {d : Drawn} {t : Nat} {os : OsState}
theorem x_check_new (F : ExcBaseFacts "Exception" newId initId bmE) {rest : List Value} {Q : Unit → Shared → Prop} (hC : h.get? C = some (excClassObj nm q C N bs (.ref A38 :: bmE) hdct sn sub ab col dd k0 k1 k2 k3 k5 newId))
    (hq : Q () ⟨h, g, d, t, os⟩) : wpAny M A (checkBuiltinCall newId ⟨.ref C :: rest, []⟩) Q E ⟨h, g, d, t, os⟩ := by
  have hcont : (Value.ref C :: .ref A38 :: bmE).contains (.type "Exception") = true := by rw [List.contains_cons, List.contains_cons, F.hasB, Bool.or_true, Bool.or_true]
  have hstar := F.noStar
  simp only [checkBuiltinCall, F.newKind, F.newSplit, F.newRow]
  repeat (first | refine wpAny_loadPart_at hC ?_ | (refine wpAny_isSubtype_exc hC ?_; rw [hcont]) | refine wpAny_staticBase_exc hC ?_ | refine wpAny_madeBy_exc hC ?_ | simp only [bne_self_eq_false, Bool.false_eq_true, if_false] | wp_step)
  exact hq
end
section
variable {prog : Program} {w : World} {A : Around} {R : Result → Shared → Prop} {h : Heap} {g : Array GenState} {d : Drawn} {t : Nat} {os : OsState}
theorem x_new (F : ExcBaseFacts "Exception" newId initId bmE) {rest : List Value} (hC : h.get? C = some (excClassObj nm q C N bs (.ref A38 :: bmE) hdct sn sub ab col dd k0 k1 k2 k3 k5 newId))
    (hq : R (.ok (.ret (.ref (h.objs.size + 1)))) ⟨(h.push { cls := .type "tuple", data := .seq rest.toArray }).push
      { cls := .ref C, data := .fields #[.ref h.objs.size, .none, .none, .none, .bool false, .none] }, g, d, t, os⟩) (hrest : rest.length ≤ sizeLine := by size_fits) :
    codeAny (model prog w) A (.builtin newId ⟨.ref C :: rest, []⟩) R ⟨h, g, d, t, os⟩ := by
  have hends := F.ends
  have hcB : (Value.ref C :: .ref A38 :: bmE).contains (.type "Exception") = true := by rw [List.contains_cons, List.contains_cons, F.hasB, Bool.or_true, Bool.or_true]
  have hcA : (Value.ref C :: .ref A38 :: bmE).contains (.type "AttributeError") = false := by rw [List.contains_cons, List.contains_cons, F.noAttr]; rfl
  have hcN : (Value.ref C :: .ref A38 :: bmE).contains (.type "NameError") = false := by rw [List.contains_cons, List.contains_cons, F.noName]; rfl
  refine codeAny_builtinAt F.entry ?_
  unfold Builtin.«BaseException.__new__»
  refine PySem.wpAt_bind ?_
  show PySem.wpAt _ _ _ (stack >>= _) _ _ _
  refine PySem.wpAt_bind (PySem.wpAt_stack fun p below => PySem.wpAt_of_wpAny ?_)
  wp_walk
  refine PySem.wpAt_of_wpAny ?_
  rw [F.owner]
  repeat (first | with_reducible refine wpAny_madeHere_exc F.canon hC ?_ | with_reducible refine wpAny_loadPart_at hC ?_ | (with_reducible refine wpAny_isSubtype_exc hC ?_; first | rw [hcB] | rw [hcA] | rw [hcN]) | wp_step)
  show R _ _
  rw [Heap.size_push]
  exact hq
end
section
variable {prog : Program} {w : World} {A : Around} {E : Value → Shared → Prop} {h : Heap} {g : Array GenState} {d : Drawn} {t : Nat} {os : OsState}
theorem x_type_call (F : ExcBaseFacts "Exception" newId initId bmE) {mN mA : PySem.Str → Option Value} {rest : List Value} {fI : Addr} {oI : Obj} {c0 : Value} {dA : Option Addr} {cd : ClassData} {sl : Array (Option Value)} {Q : PySem.Fin → Shared → Prop}
    (hC : h.get? C = some (excClassObj nm q C N bs (.ref A38 :: bmE) hdct sn sub ab col dd k0 k1 k2 k3 k5 newId)) (hn : h.Ns N mN) (hni : mN "__init__" = none)
    (hA : h.get? A38 = some { cls := c0, dict := dA, data := .cls cd, slots := sl }) (hnA : h.Ns cd.ns mA) (hi : mA "__init__" = some (.ref fI))
    (hfI : h.get? fI = some oI) (hfc : oI.cls = .type "function")
    (hq : ∀ h' e, Heap.MadeExcOf h h' e (.ref C) rest →
      wpAny (model prog w) A (call (.ref fI) (.ref e :: rest)) (fun r s' => r = .none ∧ Q (.done (.ret (.ref e))) s') E ⟨h', g, d, t, os⟩) (hrest : rest.length ≤ sizeLine := by size_fits) :
    wpAny (model prog w) A (Builtin.«type.__call__» ⟨.ref C :: rest, []⟩) Q E ⟨h, g, d, t, os⟩ := by
  repeat (first | with_reducible refine wpAny_loadPart_at hC ?_ | with_reducible refine wpAny_madeBy_exc hC ?_ | wp_step)
  refine codeAny_call_builtin_code (Code.quiet_builtin _ F.quiet) (x_check_new F hC ?_)
  refine x_new F hC ?_ hrest
  show wpAny _ _ _ _ _ _
  generalize hH : (h.push { cls := .type "tuple", data := .seq rest.toArray }).push { cls := .ref C, data := .fields #[.ref h.objs.size, .none, .none, .none, .bool false, .none] } = H
  have hk : ∀ b o, h.get? b = some o → H.get? b = some o := fun b o e => by rw [← hH]; exact Heap.get?_push_of_some _ (Heap.get?_push_of_some _ e)
  have hC₁ := hk _ _ hC
  have hfI₁ := hk _ _ hfI
  have hA₁ := hk _ _ hA
  have hn₁ : H.Ns N mN := let ⟨o, es, ep, e, r⟩ := hn; ⟨o, es, ep, hk _ _ e, r⟩
  have hnA₁ : H.Ns cd.ns mA := let ⟨o, es, ep, e, r⟩ := hnA; ⟨o, es, ep, hk _ _ e, r⟩
  have hget : H.get? (h.objs.size + 1) = some
      { cls := .ref C, data := .fields #[.ref h.objs.size, .none, .none, .none, .bool false, .none] } := by rw [← hH]; heap_get
  have hcC : (Value.ref C :: .ref A38 :: bmE).contains (.ref C) = true := by simp
  unfold isInstance
  repeat (first | with_reducible refine wpAny_loadPart_at hget ?_ | (with_reducible refine wpAny_isSubtype_exc hC₁ ?_; rw [hcC]) | wp_step)
  show wpAny _ _ (typeLookup (.ref C) _) _ _ _
  rw [typeLookup_eq]
  refine wpAny_bind (wpAny_mroOf_exc hC₁ ?_)
  rw [lookupAlong_cons]
  refine wpAny_bind (wpAny_classOwn_exc hC₁ hn₁ ?_)
  rw [hni, lookupAlong_cons]
  refine wpAny_bind (wpAny_classOwn_cls hA₁ hnA₁ ?_)
  rw [hi]
  refine wpAny_pure ?_
  refine wpAny_holding (wpAny_bind ?_)
  unfold bindSpecial
  refine wpAny_bind (wpAny_typeOf (T := "function") ⟨_, hfI₁, hfc⟩ ?_)
  rw [if_pos (by decide)]
  refine wpAny_pure (wpAny_bind (wpAny_mono (hq _ (h.objs.size + 1) ⟨hk, Heap.get?_none_of_le (Nat.le_succ _), h.objs.size, hget, Heap.get?_none_of_le (Nat.le_refl _), ?_⟩) (fun r s' hr => ?_) fun _ _ x => x))
  · rw [← hH]; exact Heap.get?_push_of_some _ (Heap.get?_push_at rfl rfl)
  · obtain ⟨rfl, hQ⟩ := hr
    wp_walk
    exact hQ
theorem x_call (F : ExcBaseFacts "Exception" newId initId bmE) {mN mA : PySem.Str → Option Value} {rest : List Value} {fI : Addr} {oI : Obj} {c0 : Value} {dA : Option Addr} {cd : ClassData} {sl : Array (Option Value)} {Q : Value → Shared → Prop}
    (hC : h.get? C = some (excClassObj nm q C N bs (.ref A38 :: bmE) hdct sn sub ab col dd k0 k1 k2 k3 k5 newId)) (hn : h.Ns N mN) (hni : mN "__init__" = none)
    (hA : h.get? A38 = some { cls := c0, dict := dA, data := .cls cd, slots := sl }) (hnA : h.Ns cd.ns mA) (hi : mA "__init__" = some (.ref fI))
    (hfI : h.get? fI = some oI) (hfc : oI.cls = .type "function")
    (hq : ∀ h' e, Heap.MadeExcOf h h' e (.ref C) rest →
      wpAny (model prog w) (A.under (.builtin "type.__call__" ⟨.ref C :: rest, []⟩)) (call (.ref fI) (.ref e :: rest)) (fun r s' => r = .none ∧ Q (.ref e) s') E ⟨h', g, d, t, os⟩) (hrest : rest.length ≤ sizeLine := by size_fits) :
    wpAny (model prog w) A (call (.ref C) rest) Q E ⟨h, g, d, t, os⟩ := by
  have f1 := tc_lookup
  have f2 := tc_bind (.ref C)
  have hT : (⟨h, g, d, t, os⟩ : Shared).TypeIs (.ref C) "type" := ⟨_, hC, rfl⟩
  refine wpAny_call (codeAny_of_tree ?_)
  show wpAny _ _ (callAny (.ref C) _) _ _ _
  repeat (any_goals (first | assumption | with_reducible refine wpAny_loadPart_at hC ?_ | wp_step))
  refine ⟨rfl, ?_⟩
  refine codeAny_call_builtin_at (Code.quiet_builtin _ (by decide +kernel)) entry_typeCall (wpAny_check_type_call_sub hC (x_type_call (hrest := hrest) F hC hn hni hA hnA hi hfI hfc fun h' e hm => ?_))
  exact hq h' e hm
end
section
variable {M : Model} {A : Around} {E : Value → Shared → Prop} {env : Env}
theorem x_raiseStmt {bm : List Value} {s : Shared} {x : Sem Value} {Q : Flow → Shared → Prop} (hbase : bm.contains (.type "BaseException") = true) (hh : A.handled = none)
    (h : wpAny M A x (fun v s₁ => ∃ e t od, v = .ref e ∧ s₁.heap.get? C = some (excClassObj nm q C N bs bm hdct sn sub ab col dd k0 k1 k2 k3 k5 newId) ∧
      s₁.heap.get? e = some { cls := .ref C, dict := od, data := .fields #[.ref t, .none, .none, .none, .bool false, .none] } ∧ E (.ref e) s₁) E s) :
    wpAny M A (raiseStmt env (some x) none) Q E s := by
  have hcB : (Value.ref C :: bm).contains (.type "BaseException") = true := by rw [List.contains_cons, hbase, Bool.or_true]
  unfold raiseStmt
  refine wpAny_bind (wpAny_mono h (fun v s₁ h₁ => ?_) fun _ _ x => x)
  obtain ⟨e, t, od, rfl, hC, he, hE⟩ := h₁
  obtain ⟨hp, g, d, tk, os⟩ := s₁
  repeat (first | with_reducible refine wpAny_loadPart_at he ?_ | with_reducible refine wpAny_loadPart_at hC ?_ | (with_reducible refine wpAny_isSubtype_exc hC ?_; rw [hcB]) | wp_step)
  exact wpAny_raiseNew_none hh hE
end
end
end Mine
end

section
open PySem PySem.W PyProof.Rows PySem.Spec PySem.Calls PySem.Builtin PySem.Builtin.ObjectAttr
namespace Mine
theorem exc_cls (G : GP) : clsIn (Mine.hd.heap_39 G.w.params) cExc = some { name := PySem.Str.ofString "RouteError", bases := [.ref 38], mro := mroR, ns := 50, qualname := PySem.Str.ofString "RouteError" } := by k_is
theorem init_name (G : GP) : TopFn G (PySem.Str.ofString "RouteError") cExc := ⟨by k_is, by k_is⟩
section
variable {G : GP} {c : FC} {env : Env} {ρ : LE} {σ : AH} {n m : Nat} {Q : Value → AH → Prop} {N : LE → AH → Prop} {R : Value → AH → Prop}
noncomputable def initS : SpecT := fun vs σ Q => ∃ e t u, vs = [.ref e, u] ∧ σ e = some (.raw (excObj none t)) ∧ ∀ d, Q .none (upd σ e (.raw (excObj (some d) t)))
theorem js_excattr {o e : Expr} {p p' : Pos} (O : c.Ok G n) (h : JE G c ρ σ (eval e c.env) (fun v σ1 => JE G c ρ σ1 (eval o c.env) (fun w σ2 => ∃ a t, w = .ref a ∧ σ2 a = some (.raw (excObj none t)) ∧ ∀ d, N ρ (upd σ2 a (.raw (excObj (some d) t))))))
    (hs : swapsWith e (some (.Attribute o "message" p')) p.line c.env = pure false := by rfl) : JX G c ρ σ (exec (.Assign [.Attribute o "message" p'] e p) c.env) N R := .mk fun Φ s E S => by
  refine plainObj_wpAny_Assign_Attribute (wpAny_mono (h.run Φ s E S) (fun v s1 ⟨z, σ1, h1, S1⟩ => wpAny_mono (h1.run Φ s1 E S1) (fun w s2 ⟨z2, σ2, h2, S2⟩ => ?_) fun _ _ x => x) fun _ _ x => x) hs
  obtain ⟨a, t, ew, ha, hn⟩ := h2
  rw [er_ref ew]
  have K2 := S2.K O
  obtain ⟨m, news, F, Nn, r, R⟩ := S2
  obtain ⟨o1, hm1, e1⟩ := R.at1 ha rfl
  have e1' : o1 = excObj none t := e1
  subst e1'
  have ga := (Nn _ hm1).1
  refine exc_store (vs := #[.ref t, .none, .none, .none, .bool false, .none]) K2 ga rfl rfl rfl (exc_cls G) rfl rfl (exc_taker G) (exc_set G) fun h' d tk hk hx => ⟨z.trans (z2.trans ⟨rfl, rfl, rfl⟩), ρ, _, hn d, ?_⟩
  obtain ⟨o2, hm2, e2, tn⟩ := R.turn (ao' := .raw (excObj (some d) t)) ha rfl rfl
  have e2' : o2 = excObj none t := e2
  subst e2'
  obtain ⟨news', U, R'⟩ := tn (excObj (some d) t) rfl
  have haL := (Nn _ hm1).2.1
  have ha0 := (Nn _ hm1).2.2
  obtain ⟨pre, post, q1, q2, q3, q4⟩ := U.split
  refine ⟨m, news', ⟨?_, fun b o e => hk b o (fun q => by rw [q, ha0] at e; cases e) (F.keep b o e), F.above⟩, fun p hp => ?_, r, R'⟩
  · obtain ⟨oL, es, ep, hL, rest⟩ := F.ns
    exact ⟨oL, es, ep, hk _ _ haL.symm hL, rest⟩
  · have old : p ∈ news → p.1 ≠ a → h'.get? p.1 = some p.2 ∧ p.1 ≠ c.L ∧ c.h₀.get? p.1 = none := fun hm hne => ⟨hk _ _ hne (Nn _ hm).1, (Nn _ hm).2⟩
    rw [q2] at hp
    rcases List.mem_append.mp hp with hp | hp
    · exact old (by rw [q1]; exact List.mem_append_left _ hp) (q3 _ hp)
    · rcases List.mem_cons.mp hp with rfl | hp
      · exact ⟨hx, haL, ha0⟩
      · exact old (by rw [q1]; exact List.mem_append_right _ (.tail _ hp)) (q4 _ hp)
theorem v_excinit (G : GP) : Valid G (.ref 35) 1 initS := by
  refine valid_def (n := 0) [PySem.Str.ofString "self", PySem.Str.ofString "message"] [PySem.Str.ofString "self", PySem.Str.ofString "message"] [] 2 (by k_is) (by k_is) ?_ ?_ rfl rfl rfl ?_ ?_ ?_ ?_ rfl rfl ?_
  · rintro vs σ Q ⟨e, t, u, rfl, _⟩; rfl
  · intro us hl
    rcases us with _ | ⟨u0, _ | ⟨u1, _ | ⟨u2, us⟩⟩⟩ <;> first | (exfalso; simp at hl; done) | rfl
  · decide +kernel
  · decide +kernel
  · decide +kernel
  · decide +kernel
  · rintro c O hnm hgl vs σ Q ⟨e, t, u, rfl, h0, hQ⟩
    show JX G c _ _ (execs (_ :: _) c.env) _ _
    have l0 : LocAt c 0 (PySem.Str.ofString "self") := by unfold LocAt; rw [hnm]; rfl
    have l1 : LocAt c 1 (PySem.Str.ofString "message") := by unfold LocAt; rw [hnm]; rfl
    refine js_cons (js_excattr O (je_loc O l1 rfl (je_loc O l0 rfl ⟨e, t, rfl, h0, fun d => js_nil (hQ d)⟩)))
end
end Mine
end

section
open PySem PySem.W PyProof.Rows PySem.Spec PySem.Calls PySem.Builtin PySem.Builtin.ObjectAttr
namespace Mine
theorem exc_look (G : GP) : ∃ nm q bs k0 k1 k2 k3 k5, (Mine.hd.heap_39 G.w.params).lookup cExc = some ⟨.type "type", none, .cls { name := nm, bases := bs, mro := mroR, ns := 50, qualname := q }, #[k0, k1, k2, k3, some (.builtin "Exception.__new__"), k5]⟩ := ⟨_, _, _, _, _, _, _, _, by k_is⟩
theorem exc50 (G : GP) : ∃ e1 e2 e3 e4 n, (Mine.hd.heap_39 G.w.params).lookup 50 = some ⟨.type "dict", none, .dict #[e1, e2, e3, e4] n, #[]⟩ ∧ e1.key = .str (PySem.Str.ofString "__module__") 232 ∧ e2.key = .str (PySem.Str.ofString "__firstlineno__") 236 ∧ e3.key = .str (PySem.Str.ofString "__static_attributes__") 237 ∧ e4.key = .str (PySem.Str.ofString "__doc__") 238 := ⟨_, _, _, _, _, by k_is, rfl, rfl, rfl, rfl⟩
theorem exc37 (G : GP) : ∃ e1 e2 e3 e4 e5 e6 n, (Mine.hd.heap_39 G.w.params).lookup 37 = some ⟨.type "dict", none, .dict #[e1, e2, e3, e4, e5, e6] n, #[]⟩ ∧ e1.key = .str (PySem.Str.ofString "__module__") 203 ∧ e2.key = .str (PySem.Str.ofString "__firstlineno__") 207 ∧ e3.key = .str (PySem.Str.ofString "__init__") 215 ∧ e3.val = .ref 35 ∧ e4.key = .str (PySem.Str.ofString "__static_attributes__") 217 ∧ e5.key = .str (PySem.Str.ofString "__weakref__") 219 ∧ e6.key = .str (PySem.Str.ofString "__doc__") 220 := ⟨_, _, _, _, _, _, _, by k_is, rfl, rfl, rfl, rfl, rfl, rfl, rfl⟩
theorem exc38 (G : GP) : ∃ c0 cd sl, (Mine.hd.heap_39 G.w.params).lookup 38 = some ⟨c0, none, .cls cd, sl⟩ ∧ cd.ns = 37 := ⟨_, _, _, by k_is, rfl⟩
theorem exc35 (G : GP) : ∃ d dt sl, (Mine.hd.heap_39 G.w.params).lookup 35 = some ⟨.type "function", d, dt, sl⟩ := ⟨_, _, _, by k_is⟩
theorem ns50 {G : GP} {h : Heap} (X : (Mine.hd.heap_39 G.w.params).In h) : ∃ mN, h.Ns 50 mN ∧ mN "__init__" = none := by
  obtain ⟨e1, e2, e3, e4, n, hl, k1, k2, k3, k4⟩ := exc50 G
  refine ⟨nsFind #[e1, e2, e3, e4], ⟨_, _, _, X _ _ hl, rfl, ?_, fun _ => rfl⟩, ?_⟩
  · intro e he
    simp only [List.mem_toArray, List.mem_cons, List.not_mem_nil, or_false] at he
    rcases he with rfl | rfl | rfl | rfl
    · exact ⟨_, _, k1⟩
    · exact ⟨_, _, k2⟩
    · exact ⟨_, _, k3⟩
    · exact ⟨_, _, k4⟩
  · unfold nsFind findBy
    simp [k1, k2, k3, k4, Value.isStr]
    decide
theorem ns37 {G : GP} {h : Heap} (X : (Mine.hd.heap_39 G.w.params).In h) : ∃ mN, h.Ns 37 mN ∧ mN "__init__" = some (.ref 35) := by
  obtain ⟨e1, e2, e3, e4, e5, e6, n, hl, k1, k2, k3, k3v, k4, k5, k6⟩ := exc37 G
  refine ⟨nsFind #[e1, e2, e3, e4, e5, e6], ⟨_, _, _, X _ _ hl, rfl, ?_, fun _ => rfl⟩, ?_⟩
  · intro e he
    simp only [List.mem_toArray, List.mem_cons, List.not_mem_nil, or_false] at he
    rcases he with rfl | rfl | rfl | rfl | rfl | rfl
    · exact ⟨_, _, k1⟩
    · exact ⟨_, _, k2⟩
    · exact ⟨_, _, k3⟩
    · exact ⟨_, _, k4⟩
    · exact ⟨_, _, k5⟩
    · exact ⟨_, _, k6⟩
  · unfold nsFind findBy
    simp [k1, k2, k3, Value.isStr]
    exact ⟨e3, .inr ⟨by decide, .inr ⟨by decide, rfl⟩⟩, k3v⟩
section
variable {G : GP} {c : FC} {env : Env} {ρ : LE} {σ : AH} {n m : Nat} {Q : Value → AH → Prop}
theorem je_str {z : PySem.Str} {k : Nat} {p : Pos} (h : Q (.str z 0) σ) : JE G c ρ σ (eval (.Constant (.str z) k p) env) Q := .mk fun Φ s _ S => wpAny_Constant_str (fin_t (F := fun τ => Q _ τ) S h)
theorem j_newexc {us : List Value} {u : Value} (O : c.Ok G (n + 2)) (hu : us = [u]) (h : ∀ e d t, σ e = none → Q (.ref e) (upd σ e (.raw (excObj (some d) t)))) : JE G c ρ σ (call (.ref cExc) us) Q := .mk fun Φ s E S => by
  subst hu
  have X := S.K O
  obtain ⟨nm, q, bs, k0, k1, k2, k3, k5, hl⟩ := exc_look G
  obtain ⟨c0, cd, sl, h38, hcd⟩ := exc38 G
  obtain ⟨d35, dt35, sl35, h35⟩ := exc35 G
  obtain ⟨mN, hN, hNi⟩ := ns50 X
  obtain ⟨mA, hA, hAi⟩ := ns37 X
  rw [← hcd] at hA
  have hk := O.room
  have hun := O.units
  obtain ⟨m, news, F, N, r, R⟩ := S
  refine x_call (h := s.heap) (g := s.gens) (d := s.drawn) (t := s.toks) (os := s.os) (nm := nm) (q := q) (bs := bs) (k0 := k0) (k1 := k1) (k2 := k2) (k3 := k3) (k5 := k5) (A38 := 38) (N := 50) PySem.F.excBase_Exception (X _ _ hl) hN hNi (X _ _ h38) hA hAi (X _ _ h35) rfl (fun h' e M => ?_) (by show 1 ≤ _; rw [sizeLine_eq]; omega)
  obtain ⟨t, he, htn, ht⟩ := M.there
  have hne : ∀ p ∈ news, p.1 ≠ e := fun p hp q => by have := (N p hp).1; rw [q, M.new] at this; cases this
  have h0 : c.h₀.get? e = none := by
    cases q : c.h₀.get? e with
    | none => rfl
    | some o => have := F.keep _ _ q; rw [M.new] at this; cases this
  have hL : e ≠ c.L := by
    rintro rfl
    obtain ⟨o, _, _, ho, _⟩ := F.ns
    rw [M.new] at ho; cases ho
  have hσ : σ e = none := R.none_of_fresh hne
  have S1 : St Φ c ρ (upd σ e (.raw (excObj none t))) { s with heap := h' } := ⟨m, _, F.keeps M.keeps, fun p hp => by
    rcases List.mem_cons.mp hp with rfl | hp
    · exact ⟨he, hL, h0⟩
    · exact ⟨M.keeps _ _ (N p hp).1, (N p hp).2⟩, r, R.push hne rfl rfl⟩
  let c1 : FC := { c with dp := c.dp + 1, un := c.un + 1 }
  have O1 : c1.Ok G 1 := ⟨O.bel, O.gd, O.kind, O.loc, O.glo, O.nd, by show c.dp + 1 + 4 * 1 + 10 < _; omega, by show c.un + 1 + 20 * 1 + 100 < _; omega⟩
  have eA : c.A.under (.builtin "type.__call__" ⟨.ref cExc :: [u], []⟩) = c1.A := rfl
  rw [eA]
  refine wpAny_mono (((v_excinit G).je O1 (ρ := ρ) (σ := upd σ e (.raw (excObj none t))) (vs := [.ref e, u]) (Q := fun v τ => v = .none ∧ ∃ d, τ = upd (upd σ e (.raw (excObj none t))) e (.raw (excObj (some d) t))) ⟨e, t, er u, rfl, upd_self, fun d => ⟨rfl, d, rfl⟩⟩).run Φ _ E S1) (fun v s' ⟨z, τ, ⟨hv, d, hτ⟩, S2⟩ => ⟨er_none hv, ⟨z.1, z.2.1, z.2.2⟩, τ, ?_, S2⟩) fun _ _ x => x
  have : τ = upd σ e (.raw (excObj (some d) t)) := by
    rw [hτ]; funext b; unfold upd; split <;> rfl
  rw [this]
  exact h e d t hσ
theorem je_newexc {x : PySem.Str} {xp p : Pos} {e : Expr} (O : c.Ok G (n + 2)) (g : GlAt c x) (T : TopFn G x cExc)
    (h : JE G c ρ σ (eval e c.env) (fun _ σ1 => ∀ e d t, σ1 e = none → Q (.ref e) (upd σ1 e (.raw (excObj (some d) t))))) (he : starEach [e] c.env = (false, eval e c.env) :: starEach [] c.env := by rfl) : JE G c ρ σ (eval (.Call (.Name x xp) [e] [] p) c.env) Q := by
  rw [eval_CallName]
  refine J.bind (j_gname O g T.at_ (j_callWith O T.keep (.mk fun Φ s E S => ?_) he rfl))
  exact args_cons (wpAny_mono (h.run Φ s E S) (fun w s1 ⟨z, σ2, h3, S1⟩ => args_nil ⟨z, σ2, j_newexc O rfl h3, S1⟩) fun _ _ x => x) he
end
end Mine
end

section
open PySem PySem.W PyProof.Rows PySem.Spec PySem.Calls PySem.Builtin PySem.Builtin.ObjectAttr
namespace Mine
/-- the error comes from below: it has left the frames there -/
noncomputable def Flown (c : FC) (Φ : Led) (σ : AH) (e : Value) (s' : Shared) : Prop := ∃ g m news ea, e = .ref ea ∧ Fr c.h₀ c.L g m ∧ RaisedSN c.base g (c.env :: c.outer) ea (.ref cExc) news s'.heap ∧ g.UpToSlots s'.heap ∧ Rep Φ news σ
/-- the error was made here -/
noncomputable def MadeX (c : FC) (Φ : Led) (σ : AH) (e : Value) (s' : Shared) : Prop := ∃ ea d t, e = .ref ea ∧ σ ea = none ∧ St Φ c [] (upd σ ea (.raw (excObj d t))) s'
structure JR (G : GP) (c : FC) (ρ : LE) (σ σ0 : AH) {α : Type} (t : Sem α) : Prop where
  mk ::
  run : ∀ Φ s Q, St Φ c ρ σ s → wpAny (MM G.w) c.A t Q (fun e s' => Sm s s' ∧ (MadeX c Φ σ0 e s' ∨ Flown c Φ σ0 e s')) s
section
variable {G : GP} {c : FC} {env : Env} {ρ : LE} {σ σ0 : AH} {n m : Nat} {α β : Type}
theorem JR.bindL {t : Sem α} {f : α → Sem β} (h : JR G c ρ σ σ0 t) : JR G c ρ σ σ0 (t >>= f) := .mk fun Φ s Q S => wpAny_bind (h.run Φ s _ S)
theorem JR.bindR {t : Sem α} {f : α → Sem β} (h : J G c ρ σ t (fun a σ1 => JR G c ρ σ1 σ0 (f a))) : JR G c ρ σ σ0 (t >>= f) := .mk fun Φ s Q S =>
  wpAny_bind (wpAny_mono (h.run Φ s _ S) (fun a s1 ⟨z, σ1, h1, S1⟩ => wpAny_mono (h1.run Φ s1 Q S1) (fun _ _ x => x) fun e s2 ⟨z2, r⟩ => ⟨z.trans z2, r⟩) fun _ _ x => x)
theorem JR.hold {vs : List Value} {t : Sem α} (h : JR G c ρ σ σ0 t) : JR G c ρ σ σ0 (holding vs t) := .mk fun Φ s Q S => wpAny_holding (h.run Φ s Q S)
/-! statements -/
theorem jr_cons {st : Stmt} {rest : List Stmt} (h : JR G c ρ σ σ0 (exec st c.env)) : JR G c ρ σ σ0 (execs (st :: rest) c.env) := .mk fun Φ s Q S => wpAny_execs_cons (wpAny_mono (h.run Φ s (fun _ _ => False) S) (fun _ _ x => x.elim) fun _ _ x => x)
theorem jr_next {st : Stmt} {rest : List Stmt} (h : JX G c ρ σ (exec st c.env) (fun ρ1 σ1 => JR G c ρ1 σ1 σ0 (execs rest c.env)) (fun _ _ => False)) : JR G c ρ σ σ0 (execs (st :: rest) c.env) := .mk fun Φ s Q S =>
  wpAny_execs_cons (wpAny_mono (h.run Φ s _ S) (fun fl s' ⟨z, hf⟩ => by
    cases fl with
    | next => obtain ⟨ρ1, σ1, h1, S1⟩ := hf; exact wpAny_mono (h1.run _ _ _ S1) (fun _ _ x => x) fun _ _ ⟨z2, r⟩ => ⟨z.trans z2, r⟩
    | ret v => obtain ⟨_, hf, _⟩ := hf; exact hf.elim
    | _ => exact hf.elim) fun _ _ x => x)
theorem jr_if {t : Expr} {b1 b2 : List Stmt} {p : Pos} (h : JT G c c.env ρ σ t (fun b σ1 => (b = true → JR G c ρ σ1 σ0 (execs b1 c.env)) ∧ (b = false → JR G c ρ σ1 σ0 (execs b2 c.env)))) : JR G c ρ σ σ0 (exec (.If t b1 b2 p) c.env) := .mk fun Φ s Q S =>
  wpAny_If (wpAny_mono (h.run Φ s _ S) (fun b s1 ⟨z, σ1, h1, S1⟩ => by
    cases b with
    | true => exact wpAny_mono ((h1.1 rfl).run _ _ _ S1) (fun _ _ x => x) fun _ _ ⟨z2, r⟩ => ⟨z.trans z2, r⟩
    | false => exact wpAny_mono ((h1.2 rfl).run _ _ _ S1) (fun _ _ x => x) fun _ _ ⟨z2, r⟩ => ⟨z.trans z2, r⟩) fun _ _ x => x)
theorem jr_ret {e : Expr} {p : Pos} (h : JR G c ρ σ σ0 (eval e c.env)) : JR G c ρ σ σ0 (exec (.Return (some e) p) c.env) := .mk fun Φ s Q S =>
  wpAny_Return_some (wpAny_mono (h.run Φ s (fun _ _ => False) S) (fun _ _ x => x.elim) fun _ _ x => x)
theorem jr_assign {e : Expr} {x : PySem.Str} {p p' : Pos} (h : JR G c ρ σ σ0 (eval e c.env)) (hs : swapsWith e (some (.Name x p')) p.line c.env = pure false := by rfl) : JR G c ρ σ σ0 (exec (.Assign [.Name x p'] e p) c.env) := .mk fun Φ s Q S =>
  wpAny_Assign_Name (wpAny_mono (h.run Φ s (fun _ _ => False) S) (fun _ _ x => x.elim) fun _ _ x => x) hs
theorem jr_binr {l r : Expr} {op : Operator} {p : Pos} (h : JE G c ρ σ (eval l env) (fun _ σ1 => JR G c ρ σ1 σ0 (eval r env))) : JR G c ρ σ σ0 (eval (.BinOp l op r p) env) := by
  rw [eval_BinOp]
  exact JR.bindR (J.mono h fun u σ1 h1 => JR.bindL (JR.hold h1))
theorem jr_raise {e : Expr} {p : Pos} (O : c.Ok G n) (hh : c.A.handled = none := by rfl) (h : JE G c ρ σ (eval e c.env) (fun v τ => ∃ ea d t, v = .ref ea ∧ σ0 ea = none ∧ Sub (upd σ0 ea (.raw (excObj d t))) τ)) : JR G c ρ σ σ0 (exec (.Raise (some e) none p) c.env) := .mk fun Φ s Q S => by
  obtain ⟨nm, q, bs, k0, k1, k2, k3, k5, hl⟩ := exc_look G
  rw [arm_exec_Raise]
  simp only [evalOpt, Option.map]
  refine wpAny_bind (wpAny_standAt (x_raiseStmt (C := cExc) (nm := nm) (q := q) (N := 50) (bs := bs) (bm := .ref 38 :: bmE) (hdct := true) (sn := []) (sub := []) (ab := false) (col := none) (dd := none) (k0 := k0) (k1 := k1) (k2 := k2) (k3 := k3) (k5 := k5) (newId := "Exception.__new__") (by decide +kernel) hh (wpAny_bind (wpAny_mono (h.run Φ s _ S) (fun v s1 ⟨z, τ, hv, S1⟩ => wpAny_bind (wpAny_standAt (wpAny_pure ?_))) fun _ _ x => x))))
  obtain ⟨ea, d, t, ev, h0, sub⟩ := hv
  have S2 := (S1.mono sub).forget
  refine ⟨ea, t, d, er_ref ev, (S1.K O) _ _ hl, ?_, z, .inl ⟨ea, d, t, rfl, h0, S2⟩⟩
  obtain ⟨m, news, F, N, r, R⟩ := S2
  obtain ⟨o, hm, eo⟩ := R.at1 upd_self rfl
  have eo' : o = excObj d t := eo
  rw [eo'] at hm
  exact (N _ hm).1
end
end Mine
end

section
open PySem PySem.W PyProof.Rows PySem.Spec PySem.Calls PySem.Builtin PySem.Builtin.ObjectAttr
namespace Mine
theorem leave_newX {M : Model} {A : Around} {E : Value → Shared → Prop} {s' : Shared} {base g : Heap} {outer : List Env} {L a e : Addr} {m : PySem.Str → Option Value} {name : PySem.Str} {scope : Scope} {cd : Value} {Q : Unit → Shared → Prop} {news : Led} {ob : Obj} {vs : Array Value} {a0 : Value}
    (K : Below A base outer g) (F : Fr g L s'.heap m) (N : News g L s'.heap ((e, ob) :: news)) (hne : ∀ p ∈ news, p.1 ≠ e) (hd : ob.data = .fields vs) (h0 : vs[0]? = some a0) (h1 : vs[1]? = some .none)
    (hQ : ∀ h', RaisedSN base g outer e ob.cls news h' → g.UpToSlots h' → Q () { s' with heap := h' }) (hk : scope.kind = .function) :
    wpAny M (A.deeper (envOf name scope L a cd)) (leaving (envOf name scope L a cd) (.ref e)) Q E s' := by
  have ge := N _ (.head _)
  -- the heap without the error
  let h := hideAll s'.heap [e]
  have keep : ∀ b o, h.get? b = some o → s'.heap.get? b = some o := fun b o q => of_hideAll _ q
  have hide : ∀ b o, s'.heap.get? b = some o → b ≠ e → h.get? b = some o := fun b o q hb => hideAll_get _ q (by simpa using hb)
  have he0 : h.get? e = none := hideAll_none _ (by simp)
  have Fh : Fr g L h m := by
    refine ⟨?_, fun b o q => hide b o (F.keep b o q) (fun z => by rw [z, ge.2.2] at q; cases q), F.above⟩
    obtain ⟨oL, es, ep, hL, r⟩ := F.ns
    exact ⟨oL, es, ep, hide _ _ hL (Ne.symm ge.2.1), r⟩
  have Nh : News g L h news := fun p hp => ⟨hide _ _ (N p (.tail _ hp)).1 (hne p hp), (N p (.tail _ hp)).2⟩
  have K' := K.push (name := name) (a := a) (cd := cd) Fh hk
  have hin : ∀ env ∈ (envOf name scope L a cd :: outer), ∀ b, env.frame = some b → b ∈ (envOf name scope L a cd :: outer).filterMap (·.frame) := fun env he b hb => List.mem_filterMap.mpr ⟨env, he, hb⟩
  have st : base.StaysIn (hideAll h ((envOf name scope L a cd :: outer).filterMap (·.frame))) := fun b o q => hideAll_get _ (K'.stays b o q) fun hm => by
    rw [(K'.frames.mem hm).1] at q; cases q
  have sg : ∀ b o, g.get? b = some o → b ∉ outer.filterMap (·.frame) → (hideAll h ((envOf name scope L a cd :: outer).filterMap (·.frame))).get? b = some o := fun b o q nm => hideAll_get _ (Fh.keep b o q) fun hm => by
    rcases kts_mem hm with z | z
    · rw [z, kts_self Fh] at q
      cases q
    · exact nm z
  have hl : ∀ q ∈ news, (hideAll h ((envOf name scope L a cd :: outer).filterMap (·.frame))).get? q.1 = some q.2 ∧ g.get? q.1 = none ∧ base.get? q.1 = none := fun q hq => by
    refine ⟨hideAll_get _ (Nh q hq).1 fun hm => ?_, (Nh q hq).2.2, fresh_of_stays K.stays (Nh q hq).2.2⟩
    obtain ⟨env, he, hf⟩ := List.mem_filterMap.mp hm
    rcases List.mem_cons.mp he with rfl | he
    · exact (Nh q hq).2.1 (Option.some.inj hf).symm
    · obtain ⟨o, ho, _⟩ := (K.frames.mem (List.mem_filterMap.mpr ⟨env, he, hf⟩)).2
      rw [(Nh q hq).2.2] at ho; cases ho
  have hen : (hideAll h ((envOf name scope L a cd :: outer).filterMap (·.frame))).get? e = none := by
    cases q : (hideAll h ((envOf name scope L a cd :: outer).filterMap (·.frame))).get? e with
    | none => rfl
    | some o => have := of_hideAll _ q; rw [he0] at this; cases this
  refine wpAny_leaving_firstW (a0 := a0) K'.stack ((funFrames_hide K'.frames hin).of_keeps fun b o hb _ => ⟨o, keep b o (of_hideAll _ hb), rfl⟩) rfl ge.1 (fun b o hb => keep b o (of_hideAll _ hb)) hen hd h1 h0 fun h' hL => ?_
  obtain ⟨k1, ⟨_, _, k2⟩, k3, k4⟩ := hL
  exact hQ h' ⟨_, a0, st, sg, hl, k1, hen, k2, k3⟩ ((Heap.UpToSlots.of_keeps F.keep).trans k4)
section
variable {G : GP} {c : FC} {env : Env} {ρ : LE} {σ σ0 : AH} {n m : Nat}
structure RaisesV (G : GP) (f : Value) (n : Nat) (spec : List Value → AH → Prop) : Prop where
  mk ::
  run : ∀ c : FC, c.Ok G n → c.cl = [] → ∀ ρ σ vs, spec (vs.map er) σ → ∀ Φ s, St Φ c ρ σ s → codeAny (MM G.w) c.A (.call f ⟨vs, []⟩) (fun r s' => match r with | .ok _ => False | .error e => Sm s s' ∧ Flown c Φ σ e s') s
/-- the error leaves a frame -/
theorem rz_leaves {c : FC} {cc : FC} {Φ : Led} {σ : AH} {e : Value} {s s' : Shared} {R : Value → Shared → Prop} {E : Value → Shared → Prop} {m₀ : PySem.Str → Option Value}
    (B : Below cc.A c.base (cc.env :: cc.outer) c.h₀) (hA : c.A = cc.A.deeper c.env) (hcl : c.cl = []) (hk : c.cs.kind = .function) (hb : c.base = cc.base) (ho : c.outer = cc.env :: cc.outer) (FG : Fr cc.h₀ cc.L c.h₀ m₀)
    (h : MadeX c Φ σ e s' ∨ Flown c Φ σ e s') (hR : ∀ h', Flown cc Φ σ e { s' with heap := h' } → R e { s' with heap := h' }) :
    wpAny (MM G.w) (cc.A.deeper c.env) (leaving c.env e) (fun _ s'' => R e s'') E s' := by
  obtain ⟨dp, un, gd, cn, cs, L, a, ccd, cl, outer, A₀, base, h₀, nm, gl⟩ := c
  dsimp only at hcl hk hb ho B FG
  subst hcl hb ho
  rcases h with ⟨ea, d, t, rfl, h0, m, news, F, N, _, R0⟩ | ⟨g, m, news, ea, rfl, F, RS, U, R0⟩
  · have R1 := R0.lower h0
    obtain ⟨o, hm, eo⟩ := R0.at1 upd_self rfl
    have eo' : o = excObj d t := eo
    subst eo'
    -- the ledger without the error
    let news1 := news.filter fun p => p.1 != ea
    have sub1 : ∀ p ∈ news1, p ∈ news := fun p hp => (List.mem_filter.mp hp).1
    have ne1 : ∀ p ∈ news1, p.1 ≠ ea := fun p hp => by have := (List.mem_filter.mp hp).2; simpa using this
    have R2 : Rep Φ news1 σ := by
      obtain ⟨dx, RD⟩ := R1
      refine ⟨dx, ⟨List.Nodup.sublist (List.Sublist.map _ (List.filter_sublist)) RD.nodup, fun b o e => ?_, RD.free, RD.inj, fun p hp => ?_, fun p hp => RD.off _ (.tail _ hp), fun p hp => RD.offd _ (.tail _ hp)⟩⟩
      · have z := RD.holds _ _ e
        have hb : b ≠ ea := fun q => by rw [q, h0] at e; cases e
        have hdx := RD.offd _ (.head _) _ _ e
        unfold HoldsAt at z ⊢
        split at z
        · rename_i es; obtain ⟨o3, x1, x2⟩ := z; exact ⟨o3, List.mem_filter.mpr ⟨x1, by simpa using hb⟩, x2⟩
        · rename_i s es; obtain ⟨es', n, x1, x2, x3⟩ := z
          exact ⟨es', n, List.mem_filter.mpr ⟨x1, by simpa using hb⟩, List.mem_filter.mpr ⟨x2, by simpa using hdx (by rw [es]; rfl)⟩, x3⟩
      · refine List.mem_filter.mpr ⟨RD.fr _ (.tail _ hp), ?_⟩
        obtain ⟨dx0, RD0⟩ := R0
        have := RD0.off _ hp
        have hne : p.1 ≠ ea := fun q => by rw [q, upd_self] at this; cases this
        simpa using hne
    refine leave_newX (news := news1) (ob := excObj d t) B F (fun p hp => ?_) ne1 rfl (by rfl) (by rfl) (fun h' R' U' => hR h' ⟨_, _, news1, ea, rfl, FG, R', U', R2⟩) hk
    rcases List.mem_cons.mp hp with rfl | hp
    · exact N _ hm
    · exact N _ (sub1 _ hp)
  · exact leave_onSN B F RS U fun h' R' _ U' => hR h' ⟨_, _, news, ea, rfl, FG, R', U', R0⟩
end
end Mine
end

section
open PySem PySem.W PyProof.Rows PySem.Spec PySem.Calls PySem.Builtin PySem.Builtin.ObjectAttr
namespace Mine
theorem raises_def {G : GP} {f : Addr} {n : Nat} {spec : List Value → AH → Prop} {name qual : PySem.Str} {params : Arguments} {body : List Stmt} {scope : Scope} {dV kV doc pm cdv ct oc : Value} {an od : Option Addr} {osl : Array (Option Value)} (ps nm gl : List PySem.Str) (k : Nat)
    (ho : (Mine.hd.heap_39 G.w.params).lookup f = some ⟨oc, od, .func (fnOf name qual params body scope dV kV doc pm an cdv ct), osl⟩) (hcd : codeIn (Mine.hd.heap_39 G.w.params) cdv qual = true)
    (hlen : ∀ vs σ, spec vs σ → vs.length = ps.length)
    (hbind : ∀ us : List Value, us.length = ps.length → bindArgs (fnOf name qual params body scope dV kV doc pm an cdv ct) ⟨us, []⟩ = pure (ps.zip us))
    (hk : scope.kind = .function) (hco : scope.isCoroutine = false) (hgen : scope.isGenerator = false) (hcell : ∀ x ∈ scope.names, x.2 ≠ .cell)
    (hloc : ∀ x ∈ nm, scope.names.lookup x = some .local ∧ (x == dbg) = false) (hglo : ∀ x ∈ gl, scope.names.lookup x = some .globalImplicit ∧ (x == dbg) = false) (hnd : nm.Nodup) (hps : nm = ps ++ nm.drop k) (hpk : ps.length = k)
    (hb : ∀ (c : FC), c.Ok G n → c.nm = nm → c.gl = gl → c.cl = [] → c.A.handled = none → ∀ vs σ, spec vs σ → JR G c (vs.map some ++ List.replicate (nm.length - k) none) σ σ (execs body c.env)) :
    RaisesV G (.ref f) (n + 1) spec := by
  refine .mk fun c O hcl0 ρ σ vs hspec Φ s S => ?_
  obtain ⟨m, news, F, N, r, R⟩ := S
  have hl := hlen _ _ hspec
  rw [List.length_map] at hl
  obtain ⟨tp, tl, tme, tmg, tmb, T⟩ := O.gd.top
  have hroom := O.room
  have hun := O.units
  have hpn : ∀ (i : Nat) (x : PySem.Str), ps[i]? = some x → nm[i]? = some x := fun i x h => by
    rw [hps, List.getElem?_append_left (List.getElem?_eq_some_iff.mp h).1]; exact h
  have hpsnd : ps.Nodup := by rw [hps] at hnd; exact (List.nodup_append.mp hnd).1
  refine (code_def O.bel F O.gd.K N T rfl rfl O.kind ho hcd (by show c.dp < _; omega) (BindsTo.of_eq (hbind vs hl)) (fun y hy => ?_) (fun g L' h₁ FG F' N' B' X' T' => ?_) hco hgen hk hcell)
  · have hy' : y.1 ∈ ps := (List.of_mem_zip (a := y.1) (b := y.2) hy).1
    exact (hloc _ (by rw [hps]; exact List.mem_append_left _ hy')).1
  · have gd' : Gd G g := by
      have st : ∀ b o, c.h₀.get? b = some o → g.get? b = some o := fun b o e => FG.keep b o e
      exact O.gd.keeps st
    let c' : FC := { dp := c.dp + 1, un := c.un + 3, gd := c.gd, cn := qual, cs := scope, L := L', a := f, ccd := cdv, cl := [], outer := c.env :: c.outer, A₀ := c.A, base := c.base, h₀ := g, nm := nm, gl := gl }
    have O' : c'.Ok G n := ⟨B', gd', hk, hloc, hglo, hnd, by show c.dp + 1 + 4 * n + 10 < _; omega, by show c.un + 3 + 20 * n + 100 < _; omega⟩
    have S' : St Φ c' ((vs.map er).map some ++ List.replicate (nm.length - k) none) σ { s with heap := h₁, toks := s.toks + (ps.zip vs).length } := by
      refine ⟨_, news, F', N', fun i x hx v hv => ?_, R⟩
      by_cases hi : i < vs.length
      · rw [List.getElem?_append_left (by simpa using hi)] at hv
        have hip : i < ps.length := by omega
        have hpx : ps[i]? = some x := by
          have : ps[i]? = some ps[i] := List.getElem?_eq_getElem hip
          rw [this]
          have := hpn i _ this
          rw [show c'.nm[i]? = nm[i]? from rfl, this] at hx
          exact hx
        have hvi : vs[i]? = some vs[i] := List.getElem?_eq_getElem hi
        refine ⟨vs[i], (zip_rev_lookup hpsnd hl hpx).trans hvi, ?_⟩
        simp only [List.map_map, List.getElem?_map, hvi, Option.map_some, Function.comp, Option.some.injEq] at hv
        exact hv
      · rw [List.getElem?_append_right (by simpa using hi), List.getElem?_replicate] at hv
        split at hv <;> simp at hv
    refine wpAny_mono ((hb c' O' rfl rfl rfl rfl _ _ hspec).run _ _ (fun _ _ => False) S') (fun fl s' hf => hf.elim) fun e s' hf => ?_
    obtain ⟨z, hf⟩ := hf
    exact rz_leaves (G := G) (c := c') (cc := c) (s := s) (m₀ := m) (R := fun e s'' => Sm s s'' ∧ Flown c Φ σ e s'') B' rfl rfl hk rfl rfl FG hf fun h' hfl => ⟨⟨z.1, z.2.1, z.2.2⟩, hfl⟩
section
variable {G : GP} {c : FC} {env : Env} {ρ : LE} {σ σ0 : AH} {n m : Nat}
theorem Flown.sub {Φ : Led} {τ : AH} {e : Value} {s : Shared} (h : Flown c Φ τ e s) (k : Sub σ τ) : Flown c Φ σ e s := by
  obtain ⟨g, m, news, ea, e, F, RS, U, R⟩ := h
  exact ⟨g, m, news, ea, e, F, RS, U, R.mono k⟩
theorem RaisesV.jr {f : Value} {spec : List Value → AH → Prop} (V : RaisesV G f n spec) (O : c.Ok G n) (hcl : c.cl = []) {vs : List Value} (h : spec (vs.map er) σ) (hs : Sub σ0 σ) : JR G c ρ σ σ0 (call f vs) := .mk fun Φ s Q S =>
  wpAny_call (codeAny_mono (V.run c O hcl ρ σ vs h Φ s S) fun r s' hr => by
    cases r with
    | error e => exact ⟨hr.1, .inr (hr.2.sub hs)⟩
    | ok f => exact hr.elim)
theorem jr_callWith {f : Value} {first : List Value} {p : Pos} {e : Expr} {es : List Expr} (O : c.Ok G n) (hk : keepIn (Mine.hd.heap_39 G.w.params) f = true)
    (h : J G c ρ σ (spliced (backTo p (starEach (e :: es) env))) (fun vs σ1 => JR G c ρ σ1 σ0 (call f (first ++ vs))))
    (he : starEach (e :: es) env = (false, eval e env) :: starEach es env := by rfl) (hp : (backTo p (starEach es env)).any (·.1) = false := by rfl) : JR G c ρ σ σ0 (callWith p f first (backTo p (starEach (e :: es) env)) []) := .mk fun Φ s Q S =>
  callWith_K O.gd.K hk (wpAny_mono (h.run Φ s _ S) (fun vs s1 ⟨z, σ1, h1, S1⟩ => ⟨S1.K O, wpAny_mono (h1.run Φ s1 Q S1) (fun v s2 x => x) fun _ _ ⟨z2, r⟩ => ⟨z.trans z2, r⟩⟩) fun _ _ x => x) he hp
theorem jr_call {x : PySem.Str} {xp p : Pos} {e : Expr} {es : List Expr} {f : Addr} {spec : List Value → AH → Prop} (O : c.Ok G m) (hcl : c.cl = []) (g : GlAt c x) (T : TopFn G x f) (V : RaisesV G (.ref f) n spec) (hn : n ≤ m)
    (h : JA G c c.env ρ σ p (e :: es) (fun vs σ1 => spec vs σ1 ∧ Sub σ0 σ1)) (he : starEach (e :: es) c.env = (false, eval e c.env) :: starEach es c.env := by rfl) (hp : (backTo p (starEach es c.env)).any (·.1) = false := by rfl) : JR G c ρ σ σ0 (eval (.Call (.Name x xp) (e :: es) [] p) c.env) := by
  rw [eval_CallName]
  refine JR.bindR (j_gname O g T.at_ (jr_callWith O T.keep (J.mono h fun vs σ1 h1 => ?_) he hp))
  exact V.jr (O.le hn) hcl h1.1 h1.2
end
end Mine
end

section
open PySem PySem.W PyProof.Rows PySem.Spec PySem.Calls
namespace Mine

noncomputable def badMask (vs : List Value) (σ : AH) : Prop := ∃ p : Int, vs = [vi p] ∧ (p < 0 ∨ 32 < p)
noncomputable def badNet (vs : List Value) (σ : AH) : Prop := ∃ a p : Int, vs = [vi a, vi p] ∧ (p < 0 ∨ 32 < p)
noncomputable def badAdd (vs : List Value) (σ : AH) : Prop := ∃ (s r : Addr) (n p g f m : Int), vs = [.ref s, .ref r] ∧ σ r = some (.route n p g f m) ∧ 0 ≤ n ∧ 0 ≤ g ∧ g ≤ 4294967295 ∧ (4294967295 < n ∨ (n ≤ 4294967295 ∧ (p < 0 ∨ 32 < p)) ∨ (n ≤ 4294967295 ∧ 0 ≤ p ∧ p ≤ 32 ∧ netI n p ≠ n))
theorem r_mask_of (G : GP) : RaisesV G (.ref 60) 3 badMask := by
  refine raises_def (n := 2) [S "prefix"] [S "prefix"] [S "BITS", S "RouteError", S "ALL"] 1 (by k_is) (by k_is) ?_ ?_ rfl rfl rfl ?_ ?_ ?_ ?_ rfl rfl ?_
  · rintro vs σ ⟨p, rfl, h0⟩; rfl
  · intro us hl
    rcases us with _ | ⟨u0, _ | ⟨u1, us⟩⟩ <;> first | (exfalso; simp at hl; done) | rfl
  · decide +kernel
  · decide +kernel
  · decide +kernel
  · decide +kernel
  · rintro c O hnm hgl hcl hh vs σ ⟨p, rfl, h0⟩
    have l0 : LocAt c 0 (S "prefix") := by unfold LocAt; rw [hnm]; rfl
    have g0 : GlAt c (S "BITS") := by unfold GlAt; rw [hgl]; simp
    have g1 : GlAt c (S "RouteError") := by unfold GlAt; rw [hgl]; simp
    have g2 : GlAt c (S "ALL") := by unfold GlAt; rw [hgl]; simp
    refine jr_cons (jr_if (jt_bool (jal_or (jt_cmp (je_loc O l0 rfl (je_int (jc_lt (asB ?_))))))))
    refine ⟨fun hb => ⟨fun _ => ?_, fun h => (by cases h)⟩, fun hb => ?_⟩
    · exact jr_cons (jr_raise O rfl (je_newexc O g1 (init_name G) (je_str fun e d t he => ⟨e, some d, t, rfl, he, Sub.refl' _⟩)))
    refine jal_or (jt_cmp (je_loc O l0 rfl (je_gint O g0 (by k_is) (jc_gt (asB ?_)))))
    refine ⟨fun hb => ⟨fun _ => ?_, fun h => (by cases h)⟩, fun hb' => ?_⟩
    · exact jr_cons (jr_raise O rfl (je_newexc O g1 (init_name G) (je_str fun e d t he => ⟨e, some d, t, rfl, he, Sub.refl' _⟩)))
    · simp only [decide_eq_false_iff_not] at hb hb'; omega
theorem r_net_of (G : GP) : RaisesV G (.ref 67) 4 badNet := by
  refine raises_def (n := 3) [S "address", S "prefix"] [S "address", S "prefix"] [S "mask_of"] 2 (by k_is) (by k_is) ?_ ?_ rfl rfl rfl ?_ ?_ ?_ ?_ rfl rfl ?_
  · rintro vs σ ⟨a, p, rfl, h0⟩; rfl
  · intro us hl
    rcases us with _ | ⟨u0, _ | ⟨u1, _ | ⟨u2, us⟩⟩⟩ <;> first | (exfalso; simp at hl; done) | rfl
  · decide +kernel
  · decide +kernel
  · decide +kernel
  · decide +kernel
  · rintro c O hnm hgl hcl hh vs σ ⟨a, p, rfl, h0⟩
    have l0 : LocAt c 0 (S "address") := by unfold LocAt; rw [hnm]; rfl
    have l1 : LocAt c 1 (S "prefix") := by unfold LocAt; rw [hnm]; rfl
    have g0 : GlAt c (S "mask_of") := by unfold GlAt; rw [hgl]; simp
    refine jr_cons (jr_ret (jr_binr (je_loc O l0 rfl ?_)))
    exact jr_call O hcl g0 (t_mask_of G) (r_mask_of G) (by decide) (ja_cons (je_loc O l1 rfl (ja_nil ⟨⟨p, rfl, h0⟩, Sub.refl' _⟩)))
theorem r_add (G : GP) : RaisesV G (.ref 208) 5 badAdd := by
  refine raises_def (n := 4) [S "self", S "route"] [S "self", S "route", S "net", S "branch", S "at", S "other"] [S "ALL", S "RouteError", S "net_of", S "range", S "len"] 2 (by k_is) (by k_is) ?_ ?_ rfl rfl rfl ?_ ?_ ?_ ?_ rfl rfl ?_
  · rintro vs σ ⟨R, x, n, p, g, f, m, rfl, hx, hn, hg0, hg1, hbad⟩; rfl
  · intro us hl
    rcases us with _ | ⟨u0, _ | ⟨u1, _ | ⟨u2, us⟩⟩⟩ <;> first | (exfalso; simp at hl; done) | rfl
  · decide +kernel
  · decide +kernel
  · decide +kernel
  · decide +kernel
  · rintro c O hnm hgl hcl hh vs σ ⟨R, x, n, p, g, f, m, rfl, hx, hn, hg0, hg1, hbad⟩
    have l0 : LocAt c 0 (S "self") := by unfold LocAt; rw [hnm]; rfl
    have l1 : LocAt c 1 (S "route") := by unfold LocAt; rw [hnm]; rfl
    have l2 : LocAt c 2 (S "net") := by unfold LocAt; rw [hnm]; rfl
    have l3 : LocAt c 3 (S "branch") := by unfold LocAt; rw [hnm]; rfl
    have l4 : LocAt c 4 (S "at") := by unfold LocAt; rw [hnm]; rfl
    have l5 : LocAt c 5 (S "other") := by unfold LocAt; rw [hnm]; rfl
    have g0 : GlAt c (S "ALL") := by unfold GlAt; rw [hgl]; simp
    have g1 : GlAt c (S "RouteError") := by unfold GlAt; rw [hgl]; simp
    have g2 : GlAt c (S "net_of") := by unfold GlAt; rw [hgl]; simp
    have g3 : GlAt c (S "range") := by unfold GlAt; rw [hgl]; simp
    have g4 : GlAt c (S "len") := by unfold GlAt; rw [hgl]; simp
    have rt : ∀ {τ : AH} {k : Int → Int → Int → Int → Int → Prop}, τ x = some (.route n p g f m) → k n p g f m → RtAt τ (.ref x) k := fun h hk => ⟨x, _, _, _, _, _, rfl, h, hk⟩
    by_cases hbig : 4294967295 < n
    · refine jr_cons (jr_if ?_)
      refine jt_bool (jal_or (jt_cmp (je_net O (je_loc O l1 rfl (rt hx (je_int (jc_lt (asB ?_))))))))
      refine ⟨fun hb => absurd (by simpa using hb : n < 0) (by omega), fun _ => ?_⟩
      refine jal_or (jt_cmp (je_net O (je_loc O l1 rfl (rt hx (je_gint O g0 (by k_is) (jc_gt (asB ?_)))))))
      refine ⟨fun _ => ⟨fun _ => ?_, fun h => (by cases h)⟩, fun hb => absurd hbig (by simpa using hb)⟩
      exact jr_cons (jr_raise O rfl (je_newexc O g1 (init_name G) (je_str fun e d t he => ⟨e, some d, t, rfl, he, Sub.refl' _⟩)))
    refine jr_next (js_if ?_)
    refine jt_bool (jal_or (jt_cmp (je_net O (je_loc O l1 rfl (rt hx (je_int (jc_lt (asB ?_))))))))
    refine ⟨fun hb => absurd (by simpa using hb : n < 0) (by omega), fun _ => ?_⟩
    refine jal_or (jt_cmp (je_net O (je_loc O l1 rfl (rt hx (je_gint O g0 (by k_is) (jc_gt (asB ?_)))))))
    refine ⟨fun hb => absurd (by simpa using hb : 4294967295 < n) hbig, fun _ => ?_⟩
    refine jal_or (jt_cmp (je_gateway O (je_loc O l1 rfl (rt hx (je_int (jc_lt (asB ?_)))))))
    refine ⟨fun hb => absurd (by simpa using hb : g < 0) (by omega), fun _ => ?_⟩
    refine jal_or (jt_cmp (je_gateway O (je_loc O l1 rfl (rt hx (je_gint O g0 (by k_is) (jc_gt (asB ?_)))))))
    refine ⟨fun hb => absurd (by simpa using hb : 4294967295 < g) (by omega), fun _ => ?_⟩
    refine jal_or0 ⟨fun h => (by cases h), fun _ => js_nil ?_⟩
    by_cases hp : p < 0 ∨ 32 < p
    · refine jr_cons (jr_assign ?_)
      refine jr_call O hcl g2 (t_net_of G) (r_net_of G) (by decide) ?_
      exact ja_cons (je_net O (je_loc O l1 rfl (rt hx (ja_cons (je_prefix O (je_loc O l1 rfl (rt hx (ja_nil ⟨⟨n, p, rfl, hp⟩, Sub.refl' _⟩))))))))
    · refine jr_next (js_assign O l2 ?_)
      refine je_call O g2 (t_net_of G) (v_net_of G) (by decide) ?_
      refine ja_cons (je_net O (je_loc O l1 rfl (rt hx (ja_cons (je_prefix O (je_loc O l1 rfl (rt hx (ja_nil ?_))))))))
      refine ⟨n, p, rfl, hn, by omega, by omega, by omega, ?_⟩
      refine jr_cons (jr_if (jt_cmp (je_loc O l2 rfl (je_net O (je_loc O l1 rfl (rt hx (jc_ne (asB ?_))))))))
      refine ⟨fun _ => ?_, fun hb => ?_⟩
      · exact jr_cons (jr_raise O rfl (je_newexc O g1 (init_name G) (je_str fun e d t he => ⟨e, some d, t, rfl, he, Sub.refl' _⟩)))
      · have : netI n p = n := by simpa using hb
        rcases hbad with h | h | h
        · omega
        · exact absurd h.2 hp
        · exact absurd this h.2.2.2
end Mine
end

section
open PySem PySem.W PyProof.Rows PySem.Spec PySem.Calls PySem.Builtin PySem.Builtin.ObjectAttr
namespace Mine
structure JF (G : GP) (c : FC) (ρ : LE) (σ σ0 : AH) {α : Type} (t : Sem α) : Prop where
  mk ::
  run : ∀ Φ s Q, St Φ c ρ σ s → wpAny (MM G.w) c.A t Q (fun e s' => Sm s s' ∧ Flown c Φ σ0 e s') s
section
variable {G : GP} {c : FC} {env : Env} {ρ : LE} {σ σ0 : AH} {n m : Nat} {α β : Type}
theorem JF.bindR {t : Sem α} {f : α → Sem β} (h : J G c ρ σ t (fun a σ1 => JF G c ρ σ1 σ0 (f a))) : JF G c ρ σ σ0 (t >>= f) := .mk fun Φ s Q S =>
  wpAny_bind (wpAny_mono (h.run Φ s _ S) (fun a s1 ⟨z, σ1, h1, S1⟩ => wpAny_mono (h1.run Φ s1 Q S1) (fun _ _ x => x) fun e s2 ⟨z2, r⟩ => ⟨z.trans z2, r⟩) fun _ _ x => x)
theorem JF.eq {t t' : Sem α} (e : t = t') (h : JF G c ρ σ σ0 t') : JF G c ρ σ σ0 t := e ▸ h
theorem jf_cons {st : Stmt} {rest : List Stmt} (h : JF G c ρ σ σ0 (exec st c.env)) : JF G c ρ σ σ0 (execs (st :: rest) c.env) := .mk fun Φ s Q S => wpAny_execs_cons (wpAny_mono (h.run Φ s (fun _ _ => False) S) (fun _ _ x => x.elim) fun _ _ x => x)
theorem jf_expr {e : Expr} {p : Pos} (h : JF G c ρ σ σ0 (eval e c.env)) (hk : interactive c.env = false) (hs : swapsWith e none p.line c.env = pure false := by rfl) : JF G c ρ σ σ0 (exec (.Expr e p) c.env) := .mk fun Φ s Q S =>
  wpAny_Expr (wpAny_mono (h.run Φ s (fun _ _ => False) S) (fun _ _ x => x.elim) fun _ _ x => x) hk hs
theorem RaisesV.jf {f : Value} {spec : List Value → AH → Prop} (V : RaisesV G f n spec) (O : c.Ok G n) (hcl : c.cl = []) {vs : List Value} (h : spec (vs.map er) σ) (hs : Sub σ0 σ) : JF G c ρ σ σ0 (call f vs) := .mk fun Φ s Q S =>
  wpAny_call (codeAny_mono (V.run c O hcl ρ σ vs h Φ s S) fun r s' hr => by
    cases r with
    | error e => exact ⟨hr.1, hr.2.sub hs⟩
    | ok f => exact hr.elim)
theorem jf_callWith {f : Value} {first : List Value} {p : Pos} {e : Expr} {es : List Expr} (O : c.Ok G n) (hk : keepIn (Mine.hd.heap_39 G.w.params) f = true)
    (h : J G c ρ σ (spliced (backTo p (starEach (e :: es) env))) (fun vs σ1 => JF G c ρ σ1 σ0 (call f (first ++ vs))))
    (he : starEach (e :: es) env = (false, eval e env) :: starEach es env := by rfl) (hp : (backTo p (starEach es env)).any (·.1) = false := by rfl) : JF G c ρ σ σ0 (callWith p f first (backTo p (starEach (e :: es) env)) []) := .mk fun Φ s Q S =>
  callWith_K O.gd.K hk (wpAny_mono (h.run Φ s _ S) (fun vs s1 ⟨z, σ1, h1, S1⟩ => ⟨S1.K O, wpAny_mono (h1.run Φ s1 Q S1) (fun v s2 x => x) fun _ _ ⟨z2, r⟩ => ⟨z.trans z2, r⟩⟩) fun _ _ x => x) he hp
theorem jf_meth {C : Addr} {ns : List PySem.Str} {o : Expr} {name : PySem.Str} {ap p : Pos} {e : Expr} {es : List Expr} {f : Addr} {spec : List Value → AH → Prop} {pl : Sem Bool} (O : c.Ok G m) (hcl : c.cl = []) (M : Meth G C ns name f) (V : RaisesV G (.ref f) n spec) (hn : n ≤ m)
    (h : JE G c ρ σ (eval o env) (fun v σ1 => ∃ a ao s, v = .ref a ∧ σ1 a = some ao ∧ shape ao = some s ∧ s.C = C ∧ s.ns = ns ∧ JA G c env ρ σ1 p (e :: es) (fun vs σ2 => spec (.ref a :: vs) σ2 ∧ Sub σ0 σ2)))
    (hx : eval (.Call (.Attribute o name ap) (e :: es) [] p) env = (do
      let ov ← eval o env
      standAt ap.atName
      let (f, first) ← holding [ov] (getMethod ov name pl)
      callWith p f first (backTo p (starEach (e :: es) env)) []) := by rfl)
    (he : starEach (e :: es) env = (false, eval e env) :: starEach es env := by rfl) (hp : (backTo p (starEach es env)).any (·.1) = false := by rfl) : JF G c ρ σ σ0 (eval (.Call (.Attribute o name ap) (e :: es) [] p) env) := by
  refine JF.eq hx (JF.bindR (J.mono h fun ov σ1 h1 => JF.bindR (J.at (JF.bindR (J.hold ?_)))))
  obtain ⟨a, ao, s, ev, ha, hs, hC, hns, h2⟩ := h1
  rw [er_ref ev]
  refine j_method O M ha hs hC hns ?_
  exact jf_callWith O M.keep (J.mono h2 fun vs σ2 h3 => V.jf (O.le hn) hcl h3.1 h3.2) he hp
end
theorem re_top (G : GP) : nsIn (Mine.hd.heap_39 G.w.params) mainGlobals "RouteError" = some (some (.ref cExc)) := by k_is
/-- the error is caught in the frame of _law_refused -/
theorem caught_mine {G : GP} {c : FC} {n : Nat} {ρ : LE} {Φ : Led} {σ : AH} {s' : Shared} {E : Value → Shared → Prop} {Q : Flow → Shared → Prop} {e : Value} {x : PySem.Str} {np pos p2 p3 : Pos} {k : Nat} {rest : List ExceptHandler} {A₀ : Around}
    (O : c.Ok G n) (hA : c.A = A₀.deeper c.env) (B : Below A₀ c.base c.outer c.h₀) (hcl : c.cl = []) (gl : GlAt c x) (hx : x = PySem.Str.ofString "RouteError") (XB : Gd G c.base) (h : Flown c Φ σ e s')
    (hQ : ∀ h' g' m news, KtsTurn (c.outer.filterMap (·.frame)) c.h₀ g' → Fr g' c.L h' m → News g' c.L h' news → Rep Φ news σ → Q (.ret (.bool true)) { s' with heap := h' }) :
    wpAny (MM G.w) (A₀.deeper c.env) (noteFrame e c.env) (fun _ s₂ => wpAny (MM G.w) (A₀.deeper c.env) (setFlight e none) (fun _ s₃ =>
        wpAny (MM G.w) (A₀.deeper c.env) (handleBy e c.env (.ExceptHandler (some (.Name x np)) none [.Return (some (.Constant (.bool true) k p2)) p3] pos :: rest)) Q E s₃) E s₂) E s' := by
  have hkk := O.kGl gl
  have hkd := O.kind
  obtain ⟨dp, un, gd, cn, cs, L, a, ccd, cl, outer, A1, base, h₀, nm, gls⟩ := c
  dsimp only at hcl B hQ XB hkd
  subst hcl hx
  obtain ⟨g, m, news, ea, rfl, F, RS, hsm, R0⟩ := h
  obtain ⟨B', a0, hB, hBG, hl, hfl⟩ := RS
  dsimp only at F hB hBG hl hfl
  have hL : B'.get? L = none := by
    obtain ⟨_, ⟨L', _, hf, hn', _⟩, _⟩ := hfl.2.2.1
    obtain rfl : L = L' := Option.some.inj hf
    exact hn'
  obtain ⟨tp, tl, tme, tmg, tmb, TB⟩ := XB.top
  refine wpAny_looks_onW (Around.frames_deeper B.stack) rfl hfl fun h₄ hheld₄ hsm₄ => ?_
  refine wpAny_landsW hheld₄ fun h₅ hheld hsm₅' => ?_
  have hsm₅ := hsm₄.trans hsm₅'
  obtain ⟨g₅, T₅, F₅, K₅⟩ := kts_ground B F hBG hheld.1 (hsm.trans hsm₅)
  have X₅ := XB.K.keeps K₅.stays
  have P₅ := topRead_of (TB.keeps K₅.stays)
  obtain ⟨ob, hob, hobc⟩ := hheld.there
  obtain ⟨nm', q', bs, k0, k1, k2, k3, k5, hlk⟩ := exc_look G
  refine wpAny_handleBy_cons (codeAny_handlers_test (name_K F₅ X₅ P₅ (re_top G) ?_ hkd hkk.1 hkk.2)) (by intro q; cases q)
  refine wpAny_excMatches_sub_self (F₅.keep _ _ (X₅ _ _ hlk)) hob hobc (by decide +kernel) (codeAny_handlers_suite ?_)
  refine lands_againW hheld fun h₆ hfl₆ hsm₆ => ?_
  obtain ⟨g₆, T₆, F₆, K₆⟩ := kts_ground B F hBG hfl₆.1 ((hsm.trans hsm₅).trans hsm₆)
  have Nl : News g₆ L h₆ news := fun q hq => ⟨hfl₆.1 _ _ (hl q hq).1, (fun z => by have := (hl q hq).1; rw [z, hL] at this; cases this), T₆.none_ _ (kts_none F.keep (hl q hq).2.1)⟩
  exact wpAny_execs_cons (wpAny_Return_some (Constant_bool (hQ h₆ g₆ m news T₆ F₆ Nl R0)))
end Mine
end

section
open PySem PySem.W PyProof.Rows PySem.Spec PySem.Calls PySem.Builtin PySem.Builtin.ObjectAttr
namespace Mine
noncomputable def badRow (n p : Int) : Prop := 0 ≤ n ∧ (4294967295 < n ∨ (n ≤ 4294967295 ∧ (p < 0 ∨ 32 < p)) ∨ (n ≤ 4294967295 ∧ 0 ≤ p ∧ p ≤ 32 ∧ netI n p ≠ n))
abbrev scR : Scope := ⟨.function, [(S "routes", .local), (S "row", .local), (S "Route", .globalImplicit), (S "RouteError", .globalImplicit)], false, false, []⟩
theorem scR1 : ∀ x ∈ [S "routes", S "row"], scR.names.lookup x = some .local ∧ (x == dbg) = false := by decide +kernel
theorem scR2 : ∀ x ∈ [S "Route", S "RouteError"], scR.names.lookup x = some .globalImplicit ∧ (x == dbg) = false := by decide +kernel
theorem scR3 : [S "routes", S "row"].Nodup := by decide +kernel
theorem j_refused {G : GP} {c : FC} {ρ : LE} {σ : AH} {Q : Value → AH → Prop} {us : List Value} {Rs rt row : Addr} {m n p : Int} (O : c.Ok G 9) (ho : c.outer = []) (hcl : c.cl = []) (hbase : c.base = c.h₀) (eus : us.map er = [.ref Rs, .ref row])
    (hR : σ Rs = some (.routes (.ref rt) m)) (hrow : σ row = some (.tup [vi n, vi p, vi 0, vi 0, vi 0])) (bad : badRow n p) (hQ : Q (.bool true) σ) : JE G c ρ σ (call (.ref 318) us) Q := .mk fun Φ s E S => by
  have hbel := O.bel
  have hgd := O.gd
  have hroom := O.room
  have hun := O.units
  have hkd := O.kind
  obtain ⟨dp, un, gd, cn, cs, L, a, ccd, cl, outer, A1, base, h₀, nm, gls⟩ := c
  dsimp only at ho hcl hbase hbel hgd hroom hun hkd
  subst ho hcl hbase
  obtain ⟨mm, news, F, N, r, R⟩ := S
  dsimp only at F N r
  obtain ⟨tp, tl, tme, tmg, tmb, T⟩ := hgd.top
  have hus : us.length = 2 := by rw [← List.length_map (f := er), eus]; rfl
  refine wpAny_call (code_defS0 (K := Mine.hd.heap_39 G.w.params) (cn := cn) (cs := cs) (a := a) (ccd := ccd) (binds := [S "routes", S "row"].zip us) hbel F hgd.K N T rfl (by k_is) (by k_is) (by show dp < _; omega) (BindsTo.of_eq ?_) (fun y hy => ?_) (fun g L' h₁ FG F' N' B' X' T' D' => ?_) hkd rfl rfl rfl ?_)
  · rcases us with _ | ⟨u0, _ | ⟨u1, _ | ⟨u2, us⟩⟩⟩ <;> first | (exfalso; simp at hus; done) | rfl
  · have hy' : y.1 ∈ [S "routes", S "row"] := (List.of_mem_zip (a := y.1) (b := y.2) hy).1
    revert hy'; generalize y.1 = z; revert z; decide +kernel
  · rcases us with _ | ⟨u0, _ | ⟨u1, _ | ⟨u2, us⟩⟩⟩ <;> first | (exfalso; simp at hus; done) | skip
    simp only [List.map_cons, List.map_nil, List.cons.injEq, and_true] at eus
    obtain ⟨e0, e1⟩ := eus
    let c1 : FC := { dp := dp + 1, un := un + 3, gd := gd, cn := S "_law_refused", cs := scR, L := L', a := 318, ccd := .ref 317, cl := [], outer := [envOf cn cs L a ccd], A₀ := ktrTop dp un gd cn cs L a ccd [] [], base := base, h₀ := g, nm := [S "routes", S "row"], gl := [S "Route", S "RouteError"] }
    have gd1 : Gd G g := hgd.keeps FG.keep
    have O1 : c1.Ok G 8 := ⟨B', gd1, rfl, scR1, scR2, scR3, by show dp + 1 + 4 * 8 + 10 < _; omega, by show un + 3 + 20 * 8 + 100 < _; omega⟩
    have l0 : LocAt c1 0 (S "routes") := rfl
    have l1 : LocAt c1 1 (S "row") := rfl
    have g0 : GlAt c1 (S "Route") := by unfold GlAt; simp [c1]
    have g1 : GlAt c1 (S "RouteError") := by unfold GlAt; simp [c1]
    have S1 : St Φ c1 [some (.ref Rs), some (.ref row)] σ { s with heap := h₁, toks := s.toks + ([S "routes", S "row"].zip [u0, u1]).length } := by
      refine ⟨_, news, F', N', fun i x hx v hv => ?_, R⟩
      match i, hx, hv with
      | 0, hx, hv => cases hx; cases hv; exact ⟨u0, rfl, e0⟩
      | 1, hx, hv => cases hx; cases hv; exact ⟨u1, rfl, e1⟩
    refine wpAny_execs_cons (wpAny_Try_except (wpAny_mono (JF.run (G := G) (c := c1) (ρ := [some (.ref Rs), some (.ref row)]) (σ := σ) (σ0 := σ) ?_ Φ _ (fun _ _ => False) S1) (fun _ _ x => x.elim) (fun e s' hf => ?_)))
    · show JF G c1 _ _ _ (execs _ c1.env)
      refine jf_cons (jf_expr (jf_meth (C := 244) (ns := nRoutes) O1 rfl (m_add G) (r_add G) (by decide) (je_loc O1 l0 rfl ⟨Rs, _, _, rfl, hR, rfl, rfl, rfl, ?_⟩)) (inter O1))
      refine ja_cons ?_
      refine je_call O1 g0 (t_Route G) (v_Route G) (by decide) ?_
      refine ja_cons (je_sub (je_loc O1 l1 rfl (je_int ?_)))
      refine js2_tup hrow (by decide) (by decide) (v := vi n) rfl ?_
      refine ja_cons (je_sub (je_loc O1 l1 rfl (je_int ?_)))
      refine js2_tup hrow (by decide) (by decide) (v := vi p) rfl ?_
      refine ja_cons (je_sub (je_loc O1 l1 rfl (je_int ?_)))
      refine js2_tup hrow (by decide) (by decide) (v := vi 0) rfl ?_
      refine ja_cons (je_sub (je_loc O1 l1 rfl (je_int ?_)))
      refine js2_tup hrow (by decide) (by decide) (v := vi 0) rfl ?_
      refine ja_cons (je_sub (je_loc O1 l1 rfl (je_int ?_)))
      refine js2_tup hrow (by decide) (by decide) (v := vi 0) rfl (ja_nil ?_)
      refine ⟨n, p, 0, 0, 0, rfl, fun x hx => ja_nil ⟨⟨Rs, x, n, p, 0, 0, 0, rfl, upd_self, bad.1, by decide, by decide, bad.2⟩, Sub.upd hx⟩⟩
    · obtain ⟨z, hf⟩ := hf
      refine caught_mine (ρ := []) (c := c1) (A₀ := ktrTop dp un gd cn cs L a ccd [] []) O1 rfl B' rfl g1 rfl hgd hf fun h' g' m' news' TT F2 N2 R2 => ?_
      exact leaveS0_ F2 N2 TT fun F3 N3 => ⟨⟨z.1, z.2.1, z.2.2⟩, σ, hQ, mm, news', F3, N3, r, R2⟩
  · decide +kernel
end Mine
end

section
open PySem PySem.W PyProof.Rows PySem.Spec PySem.Calls
namespace Mine
/-- as valid_def; the frame's scope and code are told -/
theorem valid_defS {G : GP} {f : Addr} {n : Nat} {spec : SpecT} {name qual : PySem.Str} {params : Arguments} {body : List Stmt} {scope : Scope} {dV kV doc pm cdv ct oc : Value} {an od : Option Addr} {osl : Array (Option Value)} (ps nm gl : List PySem.Str) (k : Nat)
    (ho : (Mine.hd.heap_39 G.w.params).lookup f = some ⟨oc, od, .func (fnOf name qual params body scope dV kV doc pm an cdv ct), osl⟩) (hcd : codeIn (Mine.hd.heap_39 G.w.params) cdv qual = true)
    (hlen : ∀ vs σ Q, spec vs σ Q → vs.length = ps.length)
    (hbind : ∀ us : List Value, us.length = ps.length → bindArgs (fnOf name qual params body scope dV kV doc pm an cdv ct) ⟨us, []⟩ = pure (ps.zip us))
    (hk : scope.kind = .function) (hco : scope.isCoroutine = false) (hgen : scope.isGenerator = false) (hcell : ∀ x ∈ scope.names, x.2 ≠ .cell)
    (hloc : ∀ x ∈ nm, scope.names.lookup x = some .local ∧ (x == dbg) = false) (hglo : ∀ x ∈ gl, scope.names.lookup x = some .globalImplicit ∧ (x == dbg) = false) (hnd : nm.Nodup) (hps : nm = ps ++ nm.drop k) (hpk : ps.length = k)
    (hb : ∀ (c : FC), c.Ok G n → c.nm = nm → c.gl = gl → c.cs = scope → c.ccd = cdv → c.cl = [] → ∀ vs σ Q, spec vs σ Q → JX G c (vs.map some ++ List.replicate (nm.length - k) none) σ (execs body c.env) (fun _ σ' => Q .none σ') Q) :
    Valid G (.ref f) (n + 1) spec := by
  refine .mk fun c O ρ σ vs Q hspec Φ s E S => ?_
  obtain ⟨m, news, F, N, r, R⟩ := S
  have hl := hlen _ _ _ hspec
  rw [List.length_map] at hl
  obtain ⟨tp, tl, tme, tmg, tmb, T⟩ := O.gd.top
  have hroom := O.room
  have hun := O.units
  have hpn : ∀ (i : Nat) (x : PySem.Str), ps[i]? = some x → nm[i]? = some x := fun i x h => by
    rw [hps, List.getElem?_append_left (List.getElem?_eq_some_iff.mp h).1]; exact h
  have hpsnd : ps.Nodup := by rw [hps] at hnd; exact (List.nodup_append.mp hnd).1
  refine (code_def O.bel F O.gd.K N T rfl rfl O.kind ho hcd (by show c.dp < _; omega) (BindsTo.of_eq (hbind vs hl)) (fun y hy => ?_) (fun g L' h₁ FG F' N' B' X' T' => ?_) hco hgen hk hcell)
  · have hy' : y.1 ∈ ps := (List.of_mem_zip (a := y.1) (b := y.2) hy).1
    exact (hloc _ (by rw [hps]; exact List.mem_append_left _ hy')).1
  · have gd' : Gd G g := by
      have st : ∀ b o, c.h₀.get? b = some o → g.get? b = some o := fun b o e => FG.keep b o e
      exact O.gd.keeps st
    let c' : FC := { dp := c.dp + 1, un := c.un + 3, gd := c.gd, cn := qual, cs := scope, L := L', a := f, ccd := cdv, cl := [], outer := c.env :: c.outer, A₀ := c.A, base := c.base, h₀ := g, nm := nm, gl := gl }
    have O' : c'.Ok G n := ⟨B', gd', hk, hloc, hglo, hnd, by show c.dp + 1 + 4 * n + 10 < _; omega, by show c.un + 3 + 20 * n + 100 < _; omega⟩
    have S' : St Φ c' ((vs.map er).map some ++ List.replicate (nm.length - k) none) σ { s with heap := h₁, toks := s.toks + (ps.zip vs).length } := by
      refine ⟨_, news, F', N', fun i x hx v hv => ?_, R⟩
      by_cases hi : i < vs.length
      · rw [List.getElem?_append_left (by simpa using hi)] at hv
        have hip : i < ps.length := by omega
        have hpx : ps[i]? = some x := by
          have : ps[i]? = some ps[i] := List.getElem?_eq_getElem hip
          rw [this]
          have := hpn i _ this
          rw [show c'.nm[i]? = nm[i]? from rfl, this] at hx
          exact hx
        have hvi : vs[i]? = some vs[i] := List.getElem?_eq_getElem hi
        refine ⟨vs[i], (zip_rev_lookup hpsnd hl hpx).trans hvi, ?_⟩
        simp only [List.map_map, List.getElem?_map, hvi, Option.map_some, Function.comp, Option.some.injEq] at hv
        exact hv
      · rw [List.getElem?_append_right (by simpa using hi), List.getElem?_replicate] at hv
        split at hv <;> simp at hv
    refine wpAny_mono ((hb c' O' rfl rfl rfl rfl rfl _ _ _ hspec).run _ _ _ S') (fun fl s' hf => ?_) fun _ _ x => x
    have key : ∀ v σ', Q (er v) σ' → Sm { s with heap := h₁, toks := s.toks + (ps.zip vs).length } s' → (∃ ρ', St Φ c' ρ' σ' s') → LeaveK c.h₀ c.L m g (RetP Φ c ρ Q E s) v s' := by
      rintro v σ' hq z ⟨ρ', m', news', F2, N2, r2, R2⟩
      exact ⟨L', m', news', F2, N2, fun F3 N3 => ⟨z, σ', hq, m, news', F3, N3, r, R2⟩⟩
    obtain ⟨z, hf⟩ := hf
    cases fl with
    | next => obtain ⟨ρ', σ', h1, h2⟩ := hf; exact key .none σ' h1 z ⟨ρ', h2⟩
    | ret v => obtain ⟨σ', h1, h2⟩ := hf; exact key v σ' h1 z ⟨[], h2⟩
    | _ => exact hf.elim
end Mine
end

section
open PySem PySem.W PyProof.Rows PySem.Spec PySem.Calls
namespace Mine

theorem ev_ints : ∀ is : List Int, PyData.eqvAll (is.map PyData.int) (is.map PyData.int) = true
  | [] => rfl
  | i :: is => by
    show (PyData.eqv (.int i) (.int i) && _) = true
    rw [ev_ints is]; simp [PyData.eqv]
theorem ev_rows : ∀ rs : List (List Int), PyData.eqvAll (rs.map fun is => PyData.tuple (is.map .int)) (rs.map fun is => PyData.tuple (is.map .int)) = true
  | [] => rfl
  | r :: rs => by
    show (PyData.eqv (.tuple (r.map .int)) (.tuple (r.map .int)) && _) = true
    rw [ev_rows rs, Bool.and_true]
    show PyData.eqvAll _ _ = true
    exact ev_ints r
/-- two sorted lists with the same rows hold the same rows in the same order -/
theorem sorted_eq {a b : List (List Int)} (ha : a.Pairwise fun x y => ltL y x = false) (hb : b.Pairwise fun x y => ltL y x = false) (h : a.Perm b) : a = b :=
  List.Perm.eq_of_pairwise (fun x y _ _ h1 h2 => ltL_anti x y h2 h1) ha hb h
theorem key_ltL {r r' : Row} (h : keyLe r r') : ltL (r'.is.take 2) (r.is.take 2) = false := by
  show ltL [r'.n, r'.p] [r.n, r.p] = false
  simp only [ltL]
  rcases h with h | ⟨h1, h2⟩
  · rw [if_neg (by omega)]; simp; omega
  · rw [if_pos h1.symm]
    by_cases e : r'.p = r.p
    · rw [if_pos e]
    · rw [if_neg e]; simp; omega
theorem found_mem {a : Int} {ws : List (Addr × Row)} {q : Addr × Row} (h : foundW a ws = some q) : q ∈ ws := by
  rcases stepF_mem (b := none) h with h | h
  · exact h
  · cases h
theorem findC_mem {C : Path → List (Addr × Row)} {a : Int} {q : Addr × Row} : ∀ k, findC C a k = some q → ∃ p, q ∈ C p
  | 0, h => by
    rcases better_mem (b := none) h with h | h
    · exact ⟨_, h⟩
    · cases h
  | k + 1, h => by
    rw [findC_succ] at h
    split at h
    · exact findC_mem k h
    · rcases better_mem (b := none) h with h | h
      · exact ⟨_, h⟩
      · cases h
theorem sh_ints : ∀ is : List Int, PyData.canLayAll0 (is.map PyData.int) = true ∧ PyData.depthAll (is.map PyData.int) = 0
  | [] => ⟨by simp only [List.map_nil, PyData.canLayAll0], by simp only [List.map_nil, PyData.depthAll]⟩
  | i :: is => ⟨by simp only [List.map_cons, PyData.canLayAll0, PyData.canLay0, (sh_ints is).1, Bool.and_self], by simp only [List.map_cons, PyData.depthAll, PyData.depth, (sh_ints is).2, Nat.max_self]⟩
theorem sh_rows : ∀ rs : List (List Int), PyData.canLayAll0 (rs.map fun is => PyData.tuple (is.map .int)) = true ∧ PyData.depthAll (rs.map fun is => PyData.tuple (is.map .int)) ≤ 1
  | [] => ⟨by simp only [List.map_nil, PyData.canLayAll0], by simp only [List.map_nil, PyData.depthAll]; omega⟩
  | r :: rs => ⟨by simp only [List.map_cons, PyData.canLayAll0, PyData.canLay0, (sh_ints r).1, (sh_rows rs).1, Bool.and_self], by
      have := (sh_rows rs).2
      simp only [List.map_cons, PyData.depthAll, PyData.depth, (sh_ints r).2]; omega⟩
theorem sh_list (rs : List (List Int)) : SeqAt.shaped (.list (rs.map fun is => PyData.tuple (is.map .int))) = true := by
  have h1 := (sh_rows rs).1
  have h2 := (sh_rows rs).2
  unfold SeqAt.shaped
  simp only [PyData.canLay0, PyData.depth, h1, Bool.true_and]
  exact decide_eq_true (by omega)
theorem datRows {σ : AH} {D : Addr} {zs : List (Addr × List Int)} (hD : σ D = some (.list (zs.map fun z => .ref z.1))) (h : ∀ z ∈ zs, σ z.1 = some (.tup (z.2.map vi))) : DatH σ (.ref D) (.list ((zs.map (·.2)).map fun is => PyData.tuple (is.map .int))) := by
  refine .tups (ts := zs.map (·.1)) (rs := zs.map (·.2)) (by rw [List.map_map]; exact hD) (by simp) fun k t is h1 h2 => ?_
  rw [List.getElem?_map] at h1 h2
  cases hz : zs[k]? with
  | none => rw [hz] at h1; cases h1
  | some z =>
    rw [hz] at h1 h2
    cases h1; cases h2
    exact h z (List.mem_of_getElem? hz)
theorem lam_ok (G : GP) (k : Nat) (q : PySem.Str) {params : Arguments} {body : Expr} {scope : Scope} (hb : ∀ (pm cdv ctv : Value) (u : Value), bindArgs (kla_fn "<lambda>" q params body scope [] pm cdv ctv) ⟨[u], []⟩ = pure [(S "row", u)])
    (hs : scope = ⟨.function, [(S "row", .local)], false, false, []⟩) {p1 p2 p3 p4 : Pos} {kk : Nat} (he : body = .Subscript (.Name (S "row") p1) (.Slice none (some (.Constant (.int 2) kk p2)) none p3) p4) :
    LamOk G k (S "row") q params body scope (fun is => is.take 2) (fun is => is.length = 5) := by
  subst hs he
  refine ⟨hb, rfl, rfl, rfl, by decide +kernel, by decide +kernel, fun c1 σ a is O1 l1 ha hl => ?_⟩
  refine je_slice (je_loc O1 l1 rfl (jp_none (jp_some (je_int (jsl_tup (k := 2) ha (by rw [List.length_map]; omega) (by rw [List.length_map]; omega) fun d hd => ?_)))))
  exact ⟨d, rfl, Sub.upd hd, by rw [upd_self, List.map_take]⟩
theorem code_head (G : GP) : codeHdIn (Mine.hd.heap_39 G.w.params) 327 325 = true := by
  have h : ∃ o, (Mine.hd.heap_39 G.w.params).lookup 327 = some o ∧ (∀ K : Frag, K.lookup 327 = some o → codeHdIn K 327 325 = true) := ⟨_, by k_is, fun K e => by unfold codeHdIn; rw [e]; rfl⟩
  obtain ⟨o, h1, h2⟩ := h
  exact h2 _ h1
noncomputable def allS : SpecT := fun vs σ Q => ∃ (s R root rl : Addr) (T : Trie) (ws : List (Addr × Row)), vs = [.ref s, .ref R, .ref rl] ∧ WI σ s R root rl T ws ∧ ws.length ≤ 60 ∧ σ 325 = some (.raw (tabObj #[])) ∧ ∀ τ ps, Src τ s → τ 325 = some (.raw (tabObj ps)) → Q (.bool true) τ
theorem b_sorted (G : GP) : TopB G (S "sorted") (.builtin "sorted") := ⟨by k_is, by decide +kernel, by decide⟩
theorem v_all_right (G : GP) : Valid G (.ref 328) 5 allS := by
  refine valid_defS (n := 4) [S "source", S "routes", S "rows"] [S "source", S "routes", S "rows", S "address", S "told", S "due"] [S "_law_addresses", S "_law_found", S "len", S "sorted"] 3 (by k_is) (by k_is) ?_ ?_ rfl rfl rfl ?_ ?_ ?_ ?_ rfl rfl ?_
  · rintro vs σ Q ⟨s, R, root, rl, T, ws, rfl, I, hz, hP, hQ⟩; rfl
  · intro us hl
    rcases us with _ | ⟨u0, _ | ⟨u1, _ | ⟨u2, _ | ⟨u3, us⟩⟩⟩⟩ <;> first | (exfalso; simp at hl; done) | rfl
  · decide +kernel
  · decide +kernel
  · decide +kernel
  · decide +kernel
  · rintro c O hnm hgl hcs hccd hcl vs σ Q ⟨s, R, root, rl, T, ws, rfl, I, hz, hP, hQ⟩
    show JX G c _ _ (execs (_ :: _) c.env) _ _
    have l0 : LocAt c 0 (S "source") := by unfold LocAt; rw [hnm]; rfl
    have l1 : LocAt c 1 (S "routes") := by unfold LocAt; rw [hnm]; rfl
    have l2 : LocAt c 2 (S "rows") := by unfold LocAt; rw [hnm]; rfl
    have l3 : LocAt c 3 (S "address") := by unfold LocAt; rw [hnm]; rfl
    have l4 : LocAt c 4 (S "told") := by unfold LocAt; rw [hnm]; rfl
    have l5 : LocAt c 5 (S "due") := by unfold LocAt; rw [hnm]; rfl
    have g0 : GlAt c (S "_law_addresses") := by unfold GlAt; rw [hgl]; simp
    have g1 : GlAt c (S "_law_found") := by unfold GlAt; rw [hgl]; simp
    have g2 : GlAt c (S "len") := by unfold GlAt; rw [hgl]; simp
    have g3 : GlAt c (S "sorted") := by unfold GlAt; rw [hgl]; simp
    refine js_cons (js_for_list ?_ (fun _ _ _ _ _ _ _ _ hq => go_name hq))
    refine je_call O g0 (t_addresses G) (v_addresses G) (by decide) ?_
    refine ja_cons (je_loc O l0 rfl (ja_cons (je_loc O l2 rfl (ja_nil ?_))))
    refine ⟨s, rl, ws, rfl, I.src, I.rows, fun d τ as hd hds hl hlen has E => ?_⟩
    have I1 := I.ext E.c
    have hsP : (325 : Addr) ≠ s := by
      rintro rfl
      obtain ⟨a, b, h1, _⟩ := I.src
      rw [hP] at h1; cases h1
    have hP1 := E.1 _ _ hsP hP
    refine ⟨d, as.map vi, fun k ρ υ => Sub τ υ ∧ ρ[0]? = some (some (.ref s)) ∧ ρ[1]? = some (some (.ref R)) ∧ ρ[2]? = some (some (.ref rl)) ∧ 6 ≤ ρ.length, rfl, hl, ⟨Sub.refl' _, rfl, rfl, rfl, Nat.le_refl _⟩, fun k ρ υ h => h.1 _ _ hl, ?_, ?_⟩
    · rintro k ρ υ w ⟨hs, e0, e1, e2, e3⟩ hwk
      rw [List.getElem?_map] at hwk
      cases ha : as[k]? with
      | none => rw [ha] at hwk; cases hwk
      | some a =>
      rw [ha] at hwk
      cases hwk
      obtain ⟨a0, a1⟩ := has a (List.mem_of_getElem? ha)
      have I2 := I1.ext (Ext.of_sub hs I1.src).c
      refine jas_name O l3 ?_
      have f0 : (ρ.set 3 (some (vi a)))[0]? = some (some (.ref s)) := by rw [List.getElem?_set_ne (by decide)]; exact e0
      have f1 : (ρ.set 3 (some (vi a)))[1]? = some (some (.ref R)) := by rw [List.getElem?_set_ne (by decide)]; exact e1
      have f2 : (ρ.set 3 (some (vi a)))[2]? = some (some (.ref rl)) := by rw [List.getElem?_set_ne (by decide)]; exact e2
      have f3 : (ρ.set 3 (some (vi a)))[3]? = some (some (vi a)) := by rw [List.getElem?_set_self (by omega)]
      have f4 : 6 ≤ (ρ.set 3 (some (vi a))).length := by rw [List.length_set]; exact e3
      generalize ρ.set 3 (some (vi a)) = ρ1 at f0 f1 f2 f3 f4 ⊢
      refine js_cons (js_assign_swap O l4 l5 (je_tuple (ja_cons ?_)) ?hw)
      case hw =>
        obtain ⟨dp, un, gd, cn, cs, L, a', ccd, cl, outer, A₀, base, h₀, nm', gls⟩ := c
        dsimp only at hcs
        subst hcs
        rfl
      refine je_meth (C := 244) (ns := nRoutes) O (m_find G) (v_find G) (by decide) ?_
      refine je_loc O l1 f1 ⟨R, _, _, rfl, I2.at_, rfl, rfl, rfl, ?_⟩
      refine ja_cons (je_loc O l3 f3 (ja_nil ?_))
      refine ⟨R, root, _, a, T, rfl, I2.at_, I2.trie, fun p => Nat.le_trans (I2.cor.len p) (by omega), ?_⟩
      refine ja_cons (je_call O g1 (t_found G) (v_found G) (by decide) (ja_cons (je_loc O l2 f2 (ja_cons (je_loc O l3 f3 (ja_nil ?_))))))
      refine ⟨rl, a, ws, rfl, I2.rows.at_, I2.rows.tups, fun q hq => ⟨(I2.rows.ok q hq).net.p0, (I2.rows.ok q hq).net.p1⟩, I2.rows.len, ja_nil ⟨by simp, fun t ht => ⟨t, _, _, rfl, upd_self, ?_⟩⟩⟩
      have law := find_law I2.cor I2.rows.ok a0 a1
      have hmem : ∀ q, findC (cts T) a 32 = some q → υ q.1 = some q.2.ao := fun q hq => by
        obtain ⟨p, hp⟩ := findC_mem _ hq
        cases hn : T p with
        | none => unfold cts at hp; rw [hn] at hp; cases hp
        | some nd => rw [cts_some hn] at hp; exact I2.trie.rts _ _ hn q hp
      generalize findC (cts T) a 32 = x1 at law hmem ⊢
      have hmem2 : ∀ q, foundW a ws = some q → υ q.1 = some q.2.tup := fun q hq => I2.rows.tups q (found_mem hq)
      generalize foundW a ws = x2 at law hmem2 ⊢
      have g0' : ((ρ1.set 5 (some (optV x2))).set 4 (some (optV x1)))[0]? = some (some (.ref s)) := by rw [List.getElem?_set_ne (by decide), List.getElem?_set_ne (by decide)]; exact f0
      have g1' : ((ρ1.set 5 (some (optV x2))).set 4 (some (optV x1)))[1]? = some (some (.ref R)) := by rw [List.getElem?_set_ne (by decide), List.getElem?_set_ne (by decide)]; exact f1
      have g2' : ((ρ1.set 5 (some (optV x2))).set 4 (some (optV x1)))[2]? = some (some (.ref rl)) := by rw [List.getElem?_set_ne (by decide), List.getElem?_set_ne (by decide)]; exact f2
      have g4' : ((ρ1.set 5 (some (optV x2))).set 4 (some (optV x1)))[4]? = some (some (optV x1)) := by rw [List.getElem?_set_self (by rw [List.length_set]; omega)]
      have g5' : ((ρ1.set 5 (some (optV x2))).set 4 (some (optV x1)))[5]? = some (some (optV x2)) := by rw [List.getElem?_set_ne (by decide), List.getElem?_set_self (by omega)]
      have g6' : 6 ≤ ((ρ1.set 5 (some (optV x2))).set 4 (some (optV x1))).length := by rw [List.length_set, List.length_set]; exact f4
      have hst : Sub υ (upd υ t (.tup [optV x1, optV x2])) := Sub.upd ht
      show JX G c ((ρ1.set 5 (some (optV x2))).set 4 (some (optV x1))) (upd υ t (.tup [optV x1, optV x2])) _ _ _
      generalize (ρ1.set 5 (some (optV x2))).set 4 (some (optV x1)) = ρ2 at g0' g1' g2' g4' g5' g6' ⊢
      generalize upd υ t (.tup [optV x1, optV x2]) = υ2 at hst ⊢
      refine js_cons (js_if (jt_cmp (je_if (jt_cmp (je_loc O l4 g4' (je_none (jc_is_none (asB ?_))))))))
      cases x1 with
      | none =>
        cases x2 with
        | some q => cases law
        | none =>
          refine ⟨fun _ => je_none (je_loc O l5 g5' (jc_neD O .none .none rfl rfl (asB ⟨fun h => (by cases h), fun _ => js_nil (js_nil ⟨hs.trans' hst, g0', g1', g2', g6'⟩)⟩))), fun h => (by cases h)⟩
      | some q =>
        cases x2 with
        | none => cases law
        | some q' =>
          have eq : q.2 = q'.2 := Option.some.inj law
          refine ⟨fun h => (by cases h), fun _ => ?_⟩
          refine je_meth0 (C := 113) (ns := nRoute) O (m_row G) (v_row G) (by decide) ?_
          refine je_loc O l4 g4' ⟨q.1, _, _, rfl, hst _ _ (hmem q rfl), rfl, rfl, rfl, ?_⟩
          refine ⟨q.1, _, _, _, _, _, rfl, hst _ _ (hmem q rfl), fun t2 ht2 => ?_⟩
          have hst2 : Sub υ2 (upd υ2 t2 (.tup [vi q.2.n, vi q.2.p, vi q.2.g, vi q.2.f, vi q.2.m])) := Sub.upd ht2
          refine je_loc O l5 g5' (jc_neD O (.tup (is := q.2.is) upd_self) (.tup (is := q'.2.is) (hst2 _ _ (hst _ _ (hmem2 q' rfl)))) rfl rfl ?_)
          rw [← eq, show PyData.eqv (.tuple (q.2.is.map .int)) (.tuple (q.2.is.map .int)) = true from ev_ints _]
          exact asB ⟨fun h => (by cases h), fun _ => js_nil (js_nil ⟨(hs.trans' hst).trans' hst2, g0', g1', g2', g6'⟩)⟩
    · rintro ρ υ ⟨hs, e0, e1, e2, e3⟩
      have I2 := I1.ext (Ext.of_sub hs I1.src).c
      have hP2 := hs _ _ hP1
      have hW := W_perm I2.cor I2.rows.ok
      have hWs := W_sorted I2.cor I2.rows.ok
      have hWl : (W T []).length = ws.length := by
        have := hW.length_eq
        unfold rowsOf at this
        rwa [List.length_map, List.length_map] at this
      have xL : c.cs.names.lookup (S "told") = some .local := by rw [hcs]; rfl
      refine js_cons (js_assign_listcomp O l4 (swaps_true O.kind xL rfl rfl) rfl (by decide +kernel) rfl (by decide +kernel) rfl ?_)
      refine je_meth0 (C := 244) (ns := nRoutes) O (m_rows G) (v_rows G) (by decide) ?_
      refine je_loc O l1 e1 ⟨R, _, _, rfl, I2.at_, rfl, rfl, rfl, ?_⟩
      refine ⟨R, root, _, T, rfl, I2.at_, I2.trie, by omega, fun τ2 d2 hd2 hs2 hl2 => ?_⟩
      refine ⟨d2, (W T []).map fun q => .ref q.1, fun k ys φ => Sub τ2 φ ∧ ∃ zs : List (Addr × List Int), ys = zs.map (fun z => .ref z.1) ∧ zs.map (·.2) = ((W T []).take k).map (fun q => q.2.is) ∧ ∀ z ∈ zs, φ z.1 = some (.tup (z.2.map vi)), rfl, by rw [List.length_map]; omega, ⟨Sub.refl' _, [], rfl, rfl, fun _ h => nomatch h⟩, fun k ys φ h => h.1 _ _ hl2, ?_, ?_⟩
      · rintro k ys φ w hwk ⟨hsφ, zs, rfl, hz, hzt⟩ C oC mm u hC ho hm eu
        rw [List.getElem?_map] at hwk
        cases hr : (W T [])[k]? with
        | none => rw [hr] at hwk; cases hwk
        | some q =>
        rw [hr] at hwk
        cases hwk
        obtain ⟨p, hp⟩ := mem_pre _ (List.mem_of_getElem? hr)
        have hq : φ q.1 = some q.2.ao := by
          refine hsφ _ _ (hs2 _ _ ?_)
          cases hn : T p with
          | none => unfold cts at hp; rw [hn] at hp; cases hp
          | some nd => rw [cts_some hn] at hp; exact I2.trie.rts _ _ hn q hp
        have up : Sub φ (upd φ C (.raw oC)) := Sub.upd hC
        refine jt_tests_nil ⟨fun _ => ?_, fun h => (by cases h)⟩
        refine je_meth0 (C := 113) (ns := nRoute) O (m_row G) (v_row G) (by decide) ?_
        refine je_cloc upd_self ho hm eu ⟨q.1, _, _, rfl, up _ _ hq, rfl, rfl, rfl, ?_⟩ rfl rfl rfl
        refine ⟨q.1, _, _, _, _, _, rfl, up _ _ hq, fun t ht => ?_⟩
        have htC : t ≠ C := by rintro rfl; rw [upd_self] at ht; cases ht
        have htφ : φ t = none := by rw [upd_other htC] at ht; exact ht
        have hst : Sub φ (upd φ t (.tup (q.2.is.map vi))) := Sub.upd htφ
        refine ⟨upd φ t (.tup (q.2.is.map vi)), by rw [upd_other (Ne.symm htC)]; exact hC, fun b o e => ?_, hsφ.trans' hst, zs ++ [(t, q.2.is)], by simp [er], by rw [List.map_append, hz, List.take_add_one, hr, List.map_append]; rfl, fun z hz' => ?_⟩
        · by_cases hbt : b = t
          · subst hbt; rw [upd_other htC, upd_self] at e; rw [upd_self]; exact e
          · rw [upd_other hbt]
            by_cases hbC : b = C
            · subst hbC; rw [upd_self] at e ⊢; exact e
            · rw [upd_other hbC, upd_other hbt] at e; rw [upd_other hbC]; exact e
        · rcases List.mem_append.mp hz' with h | h
          · exact hst _ _ (hzt z h)
          · rw [List.mem_singleton.mp h]; exact upd_self
      · rintro φ ys ⟨hsφ, zs, rfl, hz, hzt⟩ D hD
        rw [List.length_map, List.take_length] at hz
        have hzl : zs.length = ws.length := by
          have := congrArg List.length hz
          rw [List.length_map, List.length_map] at this
          omega
        have hsA := (hs2.trans' hsφ).trans' (Sub.upd (o := .list (zs.map fun z => .ref z.1)) hD)
        have I3 := I2.ext (Ext.of_sub hsA I2.src).c
        have hP3 := hsA _ _ hP2
        have hzt3 : ∀ z ∈ zs, upd φ D (.list (zs.map fun z => .ref z.1)) z.1 = some (.tup (z.2.map vi)) := fun z h => Sub.upd hD _ _ (hzt z h)
        have hD3 : upd φ D (.list (zs.map fun z => .ref z.1)) D = some (.list (zs.map fun z => .ref z.1)) := upd_self
        have f0 : (ρ.set 4 (some (.ref D)))[0]? = some (some (.ref s)) := by rw [List.getElem?_set_ne (by decide)]; exact e0
        have f1 : (ρ.set 4 (some (.ref D)))[1]? = some (some (.ref R)) := by rw [List.getElem?_set_ne (by decide)]; exact e1
        have f2 : (ρ.set 4 (some (.ref D)))[2]? = some (some (.ref rl)) := by rw [List.getElem?_set_ne (by decide)]; exact e2
        have f4 : (ρ.set 4 (some (.ref D)))[4]? = some (some (.ref D)) := by rw [List.getElem?_set_self (by omega)]
        show JX G c (ρ.set 4 (some (.ref D))) (upd φ D (.list (zs.map fun z => .ref z.1))) _ _ _
        clear hsA
        generalize upd φ D (.list (zs.map fun z => .ref z.1)) = ψ at I3 hP3 hzt3 hD3 ⊢
        generalize ρ.set 4 (some (.ref D)) = ρ2 at f0 f1 f2 f4 ⊢
        have row5 : ∀ z ∈ zs, z.2.length = 5 := fun z hm => by
          have : z.2 ∈ (W T []).map (fun q => q.2.is) := by rw [← hz]; exact List.mem_map_of_mem (f := (·.2)) hm
          obtain ⟨q, _, e⟩ := List.mem_map.mp this
          rw [← e]; rfl
        have nn : ∀ l : List Int, l.length = 5 → l ≠ [] ∧ l.take 2 ≠ [] := fun l h => by
          rcases l with _ | ⟨x, _ | ⟨y, l⟩⟩
          · cases h
          · cases h
          · exact ⟨by simp, by simp⟩
        have hpw : zs.Pairwise (fun x y => ltL (y.2.take 2) (x.2.take 2) = false) := by
          have h1 : (zs.map (·.2)).Pairwise (fun x y => ltL (y.take 2) (x.take 2) = false) := by
            rw [hz]
            have : (W T []).map (fun q => q.2.is) = (rowsOf (W T [])).map Row.is := by unfold rowsOf; rw [List.map_map]; rfl
            rw [this, List.pairwise_map]
            exact hWs.imp fun h => key_ltL h
          rwa [List.pairwise_map] at h1
        refine js_cons (js_ret (je_and3 (je_cmp ?_)))
        refine je_meth0 (C := 244) (ns := nRoutes) O (m_size G) (v_size G) (by decide) ?_
        refine je_loc O l1 f1 ⟨R, _, _, rfl, I3.at_, rfl, rfl, rfl, ?_⟩
        refine ⟨R, _, _, rfl, I3.at_, fun _ h => (by cases h), ?_⟩
        refine je_len O g2 (b_len G) (je_loc O l2 f2 ⟨rl, _, rfl, I3.rows.at_, by rw [List.length_map]; omega, ?_⟩)
        rw [List.length_map]
        refine jc_eq (asB ⟨fun _ => ?_, fun h => by simp at h⟩)
        refine je_and2 (je_cmp ?_)
        refine je_loc O l4 f4 ?_
        refine je_sortedK (lx := S "row") (P := 325) (c0 := 327) (key := fun is => is.take 2) (ok := fun is => is.length = 5) (n := 2) O g3 (b_sorted G) (lam_ok G 2 _ (fun _ _ _ _ => rfl) rfl rfl) hccd (code_head G) rfl rfl ?_
        refine je_loc O l4 f4 ⟨hP3, D, zs, rfl, hD3, fun z hm => ⟨hzt3 z hm, row5 z hm, (nn _ (row5 z hm)).2⟩, by omega, hpw, fun D2 τ3 hs3 hD2 hD2l ⟨ps, hps⟩ => ?_⟩
        have ne : ∀ {a o}, ψ a = some o → (∀ x, o ≠ .raw x) → τ3 a = some o := fun {a o} h hr => hs3 _ _ (fun e => by rw [e, hP3] at h; cases h; exact hr _ rfl) h
        have hD4 := ne hD3 (by simp)
        have hzt4 : ∀ z ∈ zs, τ3 z.1 = some (.tup (z.2.map vi)) := fun z hm => ne (hzt3 z hm) (by simp)
        have hsrc4 : Src τ3 s := by
          obtain ⟨a, b, h1, h2⟩ := I3.src
          exact ⟨a, b, ne h1 (by simp), h2⟩
        have hrl4 := ne I3.rows.at_ (by simp)
        have hrt4 : ∀ q ∈ ws, τ3 q.1 = some q.2.tup := fun q hq => ne (I3.rows.tups q hq) (by simp [Row.tup])
        refine jc_eqD O (datRows hD4 hzt4) (datRows hD2l hzt4) (sh_list _) (sh_list _) ?_
        rw [show PyData.eqv (.list ((zs.map (·.2)).map fun is => PyData.tuple (is.map .int))) (.list ((zs.map (·.2)).map fun is => PyData.tuple (is.map .int))) = true from ev_rows _]
        refine asB ⟨fun _ => ?_, fun h => (by cases h)⟩
        refine je_cmp ?_
        refine je_sorted O g3 (b_sorted G) (je_loc O l4 f4 ⟨D, zs, rfl, hD4, fun z hm => ⟨hzt4 z hm, (nn _ (row5 z hm)).1⟩, by omega, fun D3 zs1 hD3n hp1 ho1 => ?_⟩)
        have u3 : Sub τ3 (upd τ3 D3 (.list (zs1.map fun z => .ref z.1))) := Sub.upd hD3n
        have hD3l : upd τ3 D3 (.list (zs1.map fun z => .ref z.1)) D3 = some (.list (zs1.map fun z => .ref z.1)) := upd_self
        generalize upd τ3 D3 (.list (zs1.map fun z => .ref z.1)) = τ4 at u3 hD3l ⊢
        have mp : (ws.map fun q => (q.1, q.2.is)).map (fun z => Value.ref z.1) = refs ws := by unfold refs; rw [List.map_map]; rfl
        refine je_sorted O g3 (b_sorted G) (je_loc O l2 f2 ⟨rl, ws.map fun q => (q.1, q.2.is), rfl, by rw [mp]; exact u3 _ _ hrl4, fun z hm => ?_, by rw [List.length_map]; omega, fun D4 zs2 hD4n hp2 ho2 => ?_⟩)
        · obtain ⟨q, hq, rfl⟩ := List.mem_map.mp hm
          exact ⟨u3 _ _ (hrt4 q hq), by simp [Row.is]⟩
        have u4 : Sub τ4 (upd τ4 D4 (.list (zs2.map fun z => .ref z.1))) := Sub.upd hD4n
        have hD4l : upd τ4 D4 (.list (zs2.map fun z => .ref z.1)) D4 = some (.list (zs2.map fun z => .ref z.1)) := upd_self
        generalize upd τ4 D4 (.list (zs2.map fun z => .ref z.1)) = τ5 at u4 hD4l ⊢
        have h1 : ∀ z ∈ zs1, τ5 z.1 = some (.tup (z.2.map vi)) := fun z hm => u4 _ _ (u3 _ _ (hzt4 z (hp1.mem_iff.mp hm)))
        have h2 : ∀ z ∈ zs2, τ5 z.1 = some (.tup (z.2.map vi)) := fun z hm => by
          obtain ⟨q, hq, rfl⟩ := List.mem_map.mp (hp2.mem_iff.mp hm)
          exact u4 _ _ (u3 _ _ (hrt4 q hq))
        refine jc_eqD O (datRows (u4 _ _ hD3l) h1) (datRows hD4l h2) (sh_list _) (sh_list _) ?_
        have hperm : (zs1.map (·.2)).Perm (zs2.map (·.2)) := by
          refine (hp1.map (·.2)).trans (List.Perm.trans ?_ (hp2.map (·.2)).symm)
          rw [hz, List.map_map]
          have := hW.map Row.is
          unfold rowsOf at this
          rw [List.map_map, List.map_map] at this
          exact this
        have heq : zs1.map (·.2) = zs2.map (·.2) := sorted_eq (by rw [List.pairwise_map]; exact ho1) (by rw [List.pairwise_map]; exact ho2) hperm
        rw [heq, show PyData.eqv (.list ((zs2.map (·.2)).map fun is => PyData.tuple (is.map .int))) (.list ((zs2.map (·.2)).map fun is => PyData.tuple (is.map .int))) = true from ev_rows _]
        refine hQ _ ps ?_ (u4 _ _ (u3 _ _ hps))
        obtain ⟨a, b, h5, h6⟩ := hsrc4
        exact ⟨a, b, u4 _ _ (u3 _ _ h5), h6⟩
end Mine
end

section
open PySem PySem.W PyProof.Rows PySem.Spec PySem.Calls
namespace Mine

structure JF1 (G : GP) (c : FC) (Φ : Led) (ρ : LE) (σ : AH) (t : Sem Flow) (R : Value → AH → Prop) : Prop where
  mk ::
  run : ∀ s E, St Φ c ρ σ s → wpAny (MM G.w) c.A t (fun fl s' => Sm s s' ∧ ∃ v σ', fl = .ret v ∧ R (er v) σ' ∧ St [] c [] σ' s') E s
section
variable {G : GP} {c : FC} {Φ : Led} {ρ : LE} {σ : AH} {R : Value → AH → Prop}
theorem jf1_cons {st : Stmt} {rest : List Stmt} (h : JX G c ρ σ (exec st c.env) (fun ρ1 σ1 => JF1 G c Φ ρ1 σ1 (execs rest c.env) R) (fun _ _ => False)) : JF1 G c Φ ρ σ (execs (st :: rest) c.env) R := .mk fun s E S =>
  wpAny_execs_cons (wpAny_mono (h.run Φ s E S) (fun fl s' ⟨z, hf⟩ => by
    cases fl with
    | next => obtain ⟨ρ1, σ1, h1, S1⟩ := hf; exact wpAny_mono (h1.run _ _ S1) (fun _ _ ⟨z2, r⟩ => ⟨z.trans z2, r⟩) fun _ _ x => x
    | ret v => obtain ⟨σ1, h1, _⟩ := hf; exact h1.elim
    | _ => exact hf.elim) fun _ _ x => x)
theorem jf1_last {rest : List Stmt} {a : Addr} {o : Obj} (h : σ a = none → JX G c ρ (upd σ a (.raw o)) (execs rest c.env) (fun _ _ => False) R) : JF1 G c [(a, o)] ρ σ (execs rest c.env) R := .mk fun s E S => by
  have hn : σ a = none := by
    obtain ⟨m, news, F, N, r, dx, Q⟩ := S
    exact Q.off _ (.head _)
  have S1 := S.lift (ao := .raw o) (fun p hp => nomatch hp) rfl rfl
  exact wpAny_mono ((h hn).run _ s E S1) (fun fl s' ⟨z, hf⟩ => by
    cases fl with
    | next => obtain ⟨ρ1, σ1, h1, _⟩ := hf; exact h1.elim
    | ret v => obtain ⟨σ1, h1, S2⟩ := hf; exact ⟨z, v, σ1, rfl, h1, S2⟩
    | _ => exact hf.elim) fun _ _ x => x
theorem je_callJ {x : PySem.Str} {xp p : Pos} {e : Expr} {es : List Expr} {f : Addr} {n : Nat} {Q : Value → AH → Prop} (O : c.Ok G n) (g : GlAt c x) (T : TopFn G x f)
    (h : JA G c c.env ρ σ p (e :: es) (fun vs σ1 => ∀ us : List Value, us.map er = vs → JE G c ρ σ1 (call (.ref f) us) Q)) (he : starEach (e :: es) c.env = (false, eval e c.env) :: starEach es c.env := by rfl) (hp : (backTo p (starEach es c.env)).any (·.1) = false := by rfl) : JE G c ρ σ (eval (.Call (.Name x xp) (e :: es) [] p) c.env) Q := by
  rw [eval_CallName]
  exact J.bind (j_gname O g T.at_ (j_callWith O T.keep (J.mono h fun us σ1 h1 => h1 us rfl) he hp))
theorem go_tup {elts : List Expr} {k : Nat} {pos : Pos} {it l : Addr} {i : Nat} {v : Value} {s : Shared} {Q : Unit → Shared → Prop} {E : Value → Shared → Prop} (ho : s.heap.get? it = some (lIt l i)) (hq : Q () s) : wpAny (MM G.w) c.A (letOwnedTupleGo (.Tuple elts k pos) (.ref it) v) Q E s := by
  cases v
  case ref T => exact wpAny_letOwnedTupleGo_listiter ⟨_, ho, rfl, rfl⟩ hq
  all_goals exact wpAny_pure hq
end
theorem t_refused (G : GP) : TopFn G (S "_law_refused") 318 := ⟨by k_is, by k_is⟩
theorem t_all_right (G : GP) : TopFn G (S "_law_all_right") 328 := ⟨by k_is, by k_is⟩
theorem cor0 (x l : Addr) : Cor (trie0 x l) [] := fun p => by
  unfold cts trie0
  by_cases h : p = [] <;> simp [h]
structure LInv (s R root : Addr) (b : Nat) (ρ : LE) (τ : AH) : Prop where
  e1 : ρ[1]? = some (some (.ref s))
  e2 : ρ[2]? = some (some (.ref R))
  e8 : 8 ≤ ρ.length
  wi : ∃ rl T ws, ρ[3]? = some (some (.ref rl)) ∧ WI τ s R root rl T ws ∧ ws.length ≤ b
theorem LInv.set {s R root : Addr} {b i : Nat} {ρ : LE} {τ : AH} {v : Option Value} (I : LInv s R root b ρ τ) (hi : 4 ≤ i) : LInv s R root b (ρ.set i v) τ := by
  obtain ⟨rl, T, ws, h1, h2, h3⟩ := I.wi
  exact ⟨by rw [List.getElem?_set_ne (by omega)]; exact I.e1, by rw [List.getElem?_set_ne (by omega)]; exact I.e2, by rw [List.length_set]; exact I.e8, rl, T, ws, by rw [List.getElem?_set_ne (by omega)]; exact h1, h2, h3⟩
theorem LInv.rows {s R root : Addr} {b b' : Nat} {ρ : LE} {τ τ' : AH} {rl : Addr} {T : Trie} {ws : List (Addr × Row)} (I : LInv s R root b ρ τ) (h : WI τ' s R root rl T ws) (hl : ws.length ≤ b') : LInv s R root b' (ρ.set 3 (some (.ref rl))) τ' :=
  ⟨by rw [List.getElem?_set_ne (by omega)]; exact I.e1, by rw [List.getElem?_set_ne (by omega)]; exact I.e2, by rw [List.length_set]; exact I.e8, rl, T, ws, by rw [List.getElem?_set_self (by have := I.e8; omega)], h, hl⟩
theorem LInv.ext {s R root : Addr} {b : Nat} {ρ : LE} {τ τ' : AH} (I : LInv s R root b ρ τ) (h : ExtC s τ τ') : LInv s R root b ρ τ' := by
  obtain ⟨rl, T, ws, h1, h2, h3⟩ := I.wi
  exact ⟨I.e1, I.e2, I.e8, rl, T, ws, h1, h2.ext h, h3⟩
theorem LInv.sub {s R root : Addr} {b : Nat} {ρ : LE} {τ τ' : AH} (I : LInv s R root b ρ τ) (h : Sub τ τ') : LInv s R root b ρ τ' := by
  obtain ⟨rl, T, ws, h1, h2, h3⟩ := I.wi
  exact I.ext (Ext.of_sub h h2.src).c
abbrev scLaw : Scope := ⟨.function, [(S "script", .local), (S "source", .local), (S "routes", .local), (S "rows", .local), (S "turn", .local), (S "row", .local), (S "net", .local), (S "prefix", .local), (S "_law_pool", .globalImplicit), (S "Routes", .globalImplicit), (S "range", .globalImplicit), (S "_law_take", .globalImplicit), (S "_law_route", .globalImplicit), (S "Route", .globalImplicit), (S "_law_put", .globalImplicit), (S "_law_changed", .globalImplicit), (S "_law_refused", .globalImplicit), (S "is_broadcast", .globalImplicit), (S "_law_all_right", .globalImplicit), (S "_law_bits_right", .globalImplicit)], false, false, []⟩
theorem scL1 : ∀ x ∈ [S "script", S "source", S "routes", S "rows", S "turn", S "row", S "net", S "prefix"], scLaw.names.lookup x = some .local ∧ (x == dbg) = false := by decide +kernel
theorem scL2 : ∀ x ∈ [S "_law_pool", S "Routes", S "range", S "_law_take", S "_law_route", S "Route", S "_law_put", S "_law_changed", S "_law_refused", S "is_broadcast", S "_law_all_right", S "_law_bits_right"], scLaw.names.lookup x = some .globalImplicit ∧ (x == dbg) = false := by decide +kernel
theorem scL3 : [S "script", S "source", S "routes", S "rows", S "turn", S "row", S "net", S "prefix"].Nodup := by decide +kernel
noncomputable def bodyOf : PySem.Data → List Stmt
  | .func f => (match f.body with | .stmts b => b | _ => [])
  | _ => []
theorem bodyOf_fn {name qual : PySem.Str} {params : Arguments} {body : List Stmt} {scope : Scope} {dV kV doc pm cdv ct : Value} {an : Option Addr} : bodyOf (.func (fnOf name qual params body scope dV kV doc pm an cdv ct)) = body := rfl
theorem law_body {G : GP} {c : FC} {body : List Stmt} {oc dV kV doc pm cdv ct : Value} {name qual : PySem.Str} {params : Arguments} {an od : Option Addr} {osl : Array (Option Value)}
    (ho : (Mine.hd.heap_39 G.w.params).lookup 342 = some ⟨oc, od, .func (fnOf name qual params body scLaw dV kV doc pm an cdv ct), osl⟩)
    (O : c.Ok G 9) (hnm : c.nm = [S "script", S "source", S "routes", S "rows", S "turn", S "row", S "net", S "prefix"]) (hgl : c.gl = [S "_law_pool", S "Routes", S "range", S "_law_take", S "_law_route", S "Route", S "_law_put", S "_law_changed", S "_law_refused", S "is_broadcast", S "_law_all_right", S "_law_bits_right"]) (hcs : c.cs = scLaw) (hou : c.outer = []) (hcl : c.cl = []) (hbase : c.base = c.h₀) (hlen : G.ns.length ≤ 1000) :
    JF1 G c [(325, tabObj #[])] [some (.ref G.sc), none, none, none, none, none, none, none] (fun _ => none) (execs body c.env) (fun v τ => v = .bool true ∧ ∃ ps, τ 325 = some (.raw (tabObj ps))) := by
  have h2 : ∃ o, (Mine.hd.heap_39 G.w.params).lookup 342 = some o ∧ (∀ o', o = o' → o'.data = .func (fnOf name qual params body scLaw dV kV doc pm an cdv ct) → JF1 G c [(325, tabObj #[])] [some (.ref G.sc), none, none, none, none, none, none, none] (fun _ => none) (execs body c.env) (fun v τ => v = .bool true ∧ ∃ ps, τ 325 = some (.raw (tabObj ps)))) := by
    refine ⟨_, by k_is, fun o' e1 e2 => ?_⟩
    subst e1
    have e5 := congrArg bodyOf e2
    rw [bodyOf_fn] at e5
    clear e2 ho
    dsimp only [bodyOf] at e5
    subst e5
    have l0 : LocAt c 0 (S "script") := by unfold LocAt; rw [hnm]; rfl
    have l1 : LocAt c 1 (S "source") := by unfold LocAt; rw [hnm]; rfl
    have l2 : LocAt c 2 (S "routes") := by unfold LocAt; rw [hnm]; rfl
    have l3 : LocAt c 3 (S "rows") := by unfold LocAt; rw [hnm]; rfl
    have l4 : LocAt c 4 (S "turn") := by unfold LocAt; rw [hnm]; rfl
    have l5 : LocAt c 5 (S "row") := by unfold LocAt; rw [hnm]; rfl
    have l6 : LocAt c 6 (S "net") := by unfold LocAt; rw [hnm]; rfl
    have l7 : LocAt c 7 (S "prefix") := by unfold LocAt; rw [hnm]; rfl
    have g_law_pool : GlAt c (S "_law_pool") := by unfold GlAt; rw [hgl]; simp
    have g_Routes : GlAt c (S "Routes") := by unfold GlAt; rw [hgl]; simp
    have g_range : GlAt c (S "range") := by unfold GlAt; rw [hgl]; simp
    have g_law_take : GlAt c (S "_law_take") := by unfold GlAt; rw [hgl]; simp
    have g_law_route : GlAt c (S "_law_route") := by unfold GlAt; rw [hgl]; simp
    have g_Route : GlAt c (S "Route") := by unfold GlAt; rw [hgl]; simp
    have g_law_put : GlAt c (S "_law_put") := by unfold GlAt; rw [hgl]; simp
    have g_law_changed : GlAt c (S "_law_changed") := by unfold GlAt; rw [hgl]; simp
    have g_law_refused : GlAt c (S "_law_refused") := by unfold GlAt; rw [hgl]; simp
    have g_is_broadcast : GlAt c (S "is_broadcast") := by unfold GlAt; rw [hgl]; simp
    have g_law_all_right : GlAt c (S "_law_all_right") := by unfold GlAt; rw [hgl]; simp
    have g_law_bits_right : GlAt c (S "_law_bits_right") := by unfold GlAt; rw [hgl]; simp
    refine jf1_cons (js_assign O l1 ?_)
    refine je_call O g_law_pool (t_pool G) (v_pool G) (by decide) ?_
    refine ja_cons (je_loc O l0 rfl (ja_cons (je_int (ja_nil ⟨rfl, hlen, fun s σ1 _ _ hsrc => ?_⟩))))
    refine jf1_cons (js_assign_swap O l2 l3 (je_tuple (ja_cons ?_)) ?hw)
    case hw =>
      obtain ⟨dp, un, gd, cn, cs, L, a', ccd, cl, outer, A₀, base, h₀, nm', gls⟩ := c
      dsimp only at hcs
      subst hcs
      rfl
    refine je_call0 O g_Routes (t_Routes G) (v_Routes G) (by decide) ⟨rfl, fun R root l hR hroot hl hlx hRx hRl => ?_⟩
    refine ja_cons (je_list (ja_nil ⟨by decide, fun rl hrl => ja_nil ⟨by simp, fun t ht => ⟨t, _, _, rfl, upd_self, ?_⟩⟩⟩))
    have su1 : Sub σ1 (newW σ1 R root l) := by
      unfold newW
      refine Sub.trans' (Sub.upd hl) (Sub.trans' (Sub.upd (by rw [upd_other (Ne.symm hlx)]; exact hroot)) (Sub.upd (by rw [upd_other hRx, upd_other hRl]; exact hR)))
    have hTr : TrieAt (newW σ1 R root l) (trie0 root l) root := trie_new hlx hRx hRl
    have hRat : newW σ1 R root l R = some (.routes (.ref root) 0) := by unfold newW; exact upd_self
    have hsrc1 := hsrc.sub su1
    have hls : s ≠ l := fun e => by obtain ⟨a, b, h, _⟩ := hsrc; rw [e, hl] at h; cases h
    have hll : newW σ1 R root l l ≠ none := by unfold newW; rw [upd_other (Ne.symm hRl), upd_other hlx, upd_self]; simp
    generalize newW σ1 R root l = σ2 at hrl ht su1 hTr hRat hsrc1 hll ⊢
    have su2 : Sub σ2 (upd (upd σ2 rl (.list [])) t (.tup [.ref R, .ref rl])) := Sub.trans' (Sub.upd hrl) (Sub.upd ht)
    have hrl1 : (upd (upd σ2 rl (.list [])) t (.tup [.ref R, .ref rl])) rl = some (.list []) := Sub.upd ht _ _ upd_self
    have W0 : WI (upd (upd σ2 rl (.list [])) t (.tup [.ref R, .ref rl])) s R root rl (trie0 root l) [] := by
      have hnd : ∀ p nd, trie0 root l p = some nd → nd.l = l := fun p nd h => by
        unfold trie0 at h
        split at h
        · cases h; rfl
        · cases h
      refine ⟨hsrc1.sub su2, ⟨hrl1, fun q h => (nomatch h), fun q h => (nomatch h), by simp, hsrc1.ne hrl⟩, su2 _ _ hRat, hTr.sub su2, cor0 _ _, fun p nd h => by rw [hnd _ _ h]; exact hls, fun p nd h => ?_⟩
      rw [hnd _ _ h]
      rintro rfl
      exact hll hrl
    generalize upd (upd σ2 rl (.list [])) t (.tup [.ref R, .ref rl]) = σ3 at W0 ⊢
    clear su1 su2 hTr hRat hsrc1 hls hll hrl1 hrl ht hR hroot hl hlx hRx hRl hsrc
    have I0 : LInv s R root 0 (([some (.ref G.sc), some (.ref s), none, none, none, none, none, none] : LE).set 3 (some (.ref rl)) |>.set 2 (some (.ref R))) σ3 := ⟨rfl, rfl, Nat.le_refl 8, rl, _, [], rfl, W0, by simp⟩
    show JF1 G c _ (([some (.ref G.sc), some (.ref s), none, none, none, none, none, none] : LE).set 3 (some (.ref rl)) |>.set 2 (some (.ref R))) σ3 _ _
    generalize (([some (.ref G.sc), some (.ref s), none, none, none, none, none, none] : LE).set 3 (some (.ref rl)) |>.set 2 (some (.ref R))) = ρ0 at I0 ⊢
    clear W0
    refine jf1_cons (JX.mono (N := LInv s R root 6) (R := fun _ _ => False) ?_ ?_ (fun _ _ h => h))
    · refine js_for_range O g_range (b_range G) ?_ (fun _ _ _ _ _ hq => go_name hq)
      refine je_bin (je_int ?_)
      refine je_call O g_law_take (t_take G) (v_take G) (by decide) ?_
      obtain ⟨rl1, T1, ws1, e3, W1, hl1⟩ := I0.wi
      refine ja_cons (je_loc O l1 I0.e1 (ja_cons (je_int (ja_nil ?_))))
      refine ⟨s, 5, rfl, by decide, by decide, W1.src, fun r σ4 h0 h1 hE _ => ?_⟩
      refine jb_add ⟨2 + r, fun k ρ τ => LInv s R root k ρ τ, rfl, by omega, by omega, I0.ext hE.c, ?_, ?_⟩
      · clear I0 W1 e3 hE
        intro k ρ τ I hk
        refine jas_name O l4 ?_
        have I1 := I.set (i := 4) (v := some (vi k)) (by decide)
        generalize ρ.set 4 (some (vi k)) = ρ1 at I1 ⊢
        clear I
        obtain ⟨rl2, T2, ws2, e3, W2, hl2⟩ := I1.wi
        refine js_cons (js_assign O l5 ?_)
        refine je_call O g_law_route (t_route G) (v_route G) (by decide) ?_
        refine ja_cons (je_loc O l1 I1.e1 (ja_nil ?_))
        refine ⟨s, rfl, W2.src, fun t τ3 r ht hts hv hok hE => ?_⟩
        have I2 := I1.set (i := 5) (v := some (.ref t)) (by decide)
        have e3' : (ρ1.set 5 (some (.ref t)))[3]? = some (some (.ref rl2)) := by rw [List.getElem?_set_ne (by decide)]; exact e3
        have e5 : (ρ1.set 5 (some (.ref t)))[5]? = some (some (.ref t)) := by rw [List.getElem?_set_self (by have := I1.e8; omega)]
        show JX G c (ρ1.set 5 (some (.ref t))) _ _ _ _
        generalize ρ1.set 5 (some (.ref t)) = ρ2 at I2 e3' e5 ⊢
        have W3 := W2.ext hE.c
        have hv' : τ3 t = some (.tup [vi r.n, vi r.p, vi r.g, vi r.f, vi r.m]) := hv
        refine js_cons (js_expr ?_ (inter O))
        refine je_meth (C := 244) (ns := nRoutes) O (m_add G) (v_add G) (by decide) ?_
        refine je_loc O l2 I2.e2 ⟨R, _, _, rfl, W3.at_, rfl, rfl, rfl, ?_⟩
        refine ja_cons ?_
        refine je_call O g_Route (t_Route G) (v_Route G) (by decide) ?_
        refine ja_cons (je_sub (je_loc O l5 e5 (je_int ?_)))
        refine js2_tup hv' (by decide) (by decide) (v := vi r.n) rfl ?_
        refine ja_cons (je_sub (je_loc O l5 e5 (je_int ?_)))
        refine js2_tup hv' (by decide) (by decide) (v := vi r.p) rfl ?_
        refine ja_cons (je_sub (je_loc O l5 e5 (je_int ?_)))
        refine js2_tup hv' (by decide) (by decide) (v := vi r.g) rfl ?_
        refine ja_cons (je_sub (je_loc O l5 e5 (je_int ?_)))
        refine js2_tup hv' (by decide) (by decide) (v := vi r.f) rfl ?_
        refine ja_cons (je_sub (je_loc O l5 e5 (je_int ?_)))
        refine js2_tup hv' (by decide) (by decide) (v := vi r.m) rfl (ja_nil ?_)
        refine ⟨r.n, r.p, r.g, r.f, r.m, rfl, fun x hx => ja_nil ?_⟩
        have E4 := Ext.of_sub (Sub.upd (o := .route r.n r.p r.g r.f r.m) hx) W3.src
        have W4 := W3.ext E4.c
        have hv4 : (upd τ3 x (.route r.n r.p r.g r.f r.m)) t = some r.tup := E4.1 _ _ hts hv
        have hx4 : (upd τ3 x (.route r.n r.p r.g r.f r.m)) x = some r.ao := upd_self
        generalize upd τ3 x (.route r.n r.p r.g r.f r.m) = τ4 at W4 hv4 hx4 ⊢
        refine ⟨R, root, x, _, T2, r, rfl, W4.at_, W4.trie, hx4, hok.good, Nat.le_trans (W4.cor.len _) (by omega), fun τ5 T' M hT' => ⟨rfl, ?_⟩⟩
        have hR5 := W4.rows.fram W4.trie W4.at_ W4.offR M
        have hv5 : τ5 t = some r.tup := M.fram _ _ hv4 rfl (fun e => by have := W4.at_; rw [← e, hv4] at this; cases this) (fun p nd hp e => by have := W4.trie.lst _ _ hp; rw [← e, hv4] at this; cases this)
        have hcor := cor_add (t := t) W4.cor W4.rows.ok hok hT'
        have hlenR := putW_lenR (t := t) hok W4.rows.ok (x := x) (W4.cor r.path)
        have hlenW := putW_len (q := (t, r)) (ws := ws2)
        refine js_cons (js_assign O l3 ?_)
        refine je_call O g_law_put (t_put G) (v_put G) (by decide) ?_
        refine ja_cons (je_loc O l3 e3' (ja_cons (je_loc O l5 e5 (ja_nil ?_))))
        refine ⟨rl2, t, ws2, r, rfl, hR5.at_, hR5.tups, hv5, by omega, fun d τ6 hd hsub hdl => ?_⟩
        have hsrc5 := W4.src.fram W4.RNe W4.offS M
        have hds : d ≠ s := hsrc5.ne hd
        refine js_nil (I2.rows (b' := k + 1) (T := T') (ws := putW (t, r) ws2) ⟨hsrc5.sub hsub, ⟨hdl, fun q hq => ?_, fun q hq => ?_, by omega, hds⟩, ?_, M.trie.sub hsub, hcor, fun p nd h e => ?_, fun p nd h => (M.trie.fresh hd h).2.1⟩ (by omega))
        · rcases putW_mem hq with rfl | h
          · exact hsub _ _ hv5
          · exact hsub _ _ (hR5.tups q h)
        · rcases putW_mem hq with rfl | h
          · exact hok
          · exact hR5.ok q h
        · rw [hsub _ _ M.at_]
          congr 2
          omega
        · rcases M.lsub _ _ h with ⟨q, nd', h1, h2⟩ | h1
          · exact W4.offS _ _ h1 (e.trans h2.symm)
          · obtain ⟨a, b, hs, _⟩ := W4.src
            rw [← e, hs] at h1; cases h1
      · intro ρ τ I
        obtain ⟨rl2, T2, ws2, e3, W2, hl2⟩ := I.wi
        exact ⟨I.e1, I.e2, I.e8, rl2, T2, ws2, e3, W2, by omega⟩
    clear I0
    clear ρ0
    intro ρ0 σ0 I0
    refine jf1_cons (JX.mono (N := LInv s R root 8) (R := fun _ _ => False) ?_ ?_ (fun _ _ h => h))
    · refine js_for_range O g_range (b_range G) ?_ (fun _ _ _ _ _ hq => go_name hq)
      refine je_call O g_law_take (t_take G) (v_take G) (by decide) ?_
      obtain ⟨rl1, T1, ws1, e3, W1, hl1⟩ := I0.wi
      refine ja_cons (je_loc O l1 I0.e1 (ja_cons (je_int (ja_nil ?_))))
      refine ⟨s, 3, rfl, by decide, by decide, W1.src, fun r σ4 h0 h1 hE _ => ?_⟩
      refine ⟨r, fun k ρ τ => LInv s R root (6 + k) ρ τ, rfl, by omega, by omega, I0.ext hE.c, ?_, ?_⟩
      · clear I0 W1 e3 hE
        intro k ρ τ I hk
        refine jas_name O l4 ?_
        have I1 := I.set (i := 4) (v := some (vi k)) (by decide)
        generalize ρ.set 4 (some (vi k)) = ρ1 at I1 ⊢
        clear I
        obtain ⟨rl2, T2, ws2, e3, W2, hl2⟩ := I1.wi
        refine js_cons (js_assign O l3 ?_)
        refine je_call O g_law_changed (t_changed G) (v_changed G) (by decide) ?_
        refine ja_cons (je_loc O l1 I1.e1 (ja_cons (je_loc O l2 I1.e2 (ja_cons (je_loc O l3 e3 (ja_nil ?_))))))
        refine ⟨s, R, root, rl2, T2, ws2, rfl, W2, by omega, fun τ3 rl3 T3 ws3 W3 hl3 => ?_⟩
        have I2 := I1.rows (b' := 6 + (k + 1)) W3 (by omega)
        have f3 : (ρ1.set 3 (some (.ref rl3)))[3]? = some (some (.ref rl3)) := by rw [List.getElem?_set_self (by have := I1.e8; omega)]
        refine js_cons (js_if (jt_cmp (je_loc O l3 f3 (je_none (jc_is_none (asB ⟨fun h => (by cases h), fun _ => js_nil (js_nil I2)⟩))))))
      · intro ρ τ I
        obtain ⟨rl2, T2, ws2, e3, W2, hl2⟩ := I.wi
        exact ⟨I.e1, I.e2, I.e8, rl2, T2, ws2, e3, W2, by omega⟩
    clear I0
    intro ρ0 σ0 I0
    refine jf1_cons (JX.mono (N := LInv s R root 8) (R := fun _ _ => False) ?_ ?_ (fun _ _ h => h))
    · refine js_for_list ?_ (fun _ _ _ _ _ _ _ ho hq => go_tup ho hq)
      refine je_list ?_
      refine ja_cons (je_tuple (ja_cons (je_int (ja_cons (je_int (ja_nil ⟨by simp, fun t1 ht1 => ?_⟩))))))
      have J1 := I0.sub (Sub.upd (o := .tup [vi 1, vi 31]) ht1)
      have b1 : upd σ0 t1 (.tup [vi 1, vi 31]) t1 = some (.tup [vi 1, vi 31]) := upd_self
      generalize upd σ0 t1 (.tup [vi 1, vi 31]) = σ1 at J1 b1 ⊢
      refine ja_cons (je_tuple (ja_cons (je_bin (je_bin (je_int (je_int (jb_pow2 (by decide) (by decide) (je_int (jb_add (ja_cons (je_int (ja_nil ⟨by simp, fun t2 ht2 => ?_⟩))))))))))))
      have su := Sub.upd (o := .tup [vi (2 ^ (31 : Int).toNat + 1), vi 8]) ht2
      have J2 := J1.sub su
      have b1 := su _ _ b1
      have b2 : upd σ1 t2 (.tup [vi (2 ^ (31 : Int).toNat + 1), vi 8]) t2 = some (.tup [vi (2 ^ (31 : Int).toNat + 1), vi 8]) := upd_self
      clear su
      generalize upd σ1 t2 (.tup [vi (2 ^ (31 : Int).toNat + 1), vi 8]) = σ2 at J2 b1 b2 ⊢
      refine ja_cons (je_tuple (ja_cons (je_int (ja_cons (je_int (ja_nil ⟨by simp, fun t3 ht3 => ?_⟩))))))
      have su := Sub.upd (o := .tup [vi 0, vi 33]) ht3
      have J3 := J2.sub su
      have b1 := su _ _ b1
      have b2 := su _ _ b2
      have b3 : upd σ2 t3 (.tup [vi 0, vi 33]) t3 = some (.tup [vi 0, vi 33]) := upd_self
      clear su
      generalize upd σ2 t3 (.tup [vi 0, vi 33]) = σ3 at J3 b1 b2 b3 ⊢
      refine ja_cons (je_tuple (ja_cons (je_int (ja_cons (je_usub (je_int ⟨1, rfl, ja_nil ⟨by simp, fun t4 ht4 => ?_⟩⟩))))))
      have su := Sub.upd (o := .tup [vi 0, vi (-1)]) ht4
      have J4 := J3.sub su
      have b1 := su _ _ b1
      have b2 := su _ _ b2
      have b3 := su _ _ b3
      have b4 : upd σ3 t4 (.tup [vi 0, vi (-1)]) t4 = some (.tup [vi 0, vi (-1)]) := upd_self
      clear su
      generalize upd σ3 t4 (.tup [vi 0, vi (-1)]) = σ4 at J4 b1 b2 b3 b4 ⊢
      refine ja_cons (je_tuple (ja_cons (je_bin (je_int (je_int (jb_pow2 (by decide) (by decide) (ja_cons (je_int (ja_nil ⟨by simp, fun t5 ht5 => ?_⟩)))))))))
      have su := Sub.upd (o := .tup [vi (2 ^ (32 : Int).toNat), vi 32]) ht5
      have J5 := J4.sub su
      have b1 := su _ _ b1
      have b2 := su _ _ b2
      have b3 := su _ _ b3
      have b4 := su _ _ b4
      have b5 : upd σ4 t5 (.tup [vi (2 ^ (32 : Int).toNat), vi 32]) t5 = some (.tup [vi (2 ^ (32 : Int).toNat), vi 32]) := upd_self
      clear su
      generalize upd σ4 t5 (.tup [vi (2 ^ (32 : Int).toNat), vi 32]) = σ5 at J5 b1 b2 b3 b4 b5 ⊢
      refine ja_nil ⟨by simp, fun d hd => ?_⟩
      have su := Sub.upd (o := .list [.ref t1, .ref t2, .ref t3, .ref t4, .ref t5]) hd
      have J6 := J5.sub su
      have bad : ∀ w ∈ ([.ref t1, .ref t2, .ref t3, .ref t4, .ref t5] : List Value), ∃ t n p, w = .ref t ∧ upd σ5 d (.list [.ref t1, .ref t2, .ref t3, .ref t4, .ref t5]) t = some (.tup [vi n, vi p]) ∧ badRow n p := by
        intro w hw
        simp only [List.mem_cons, List.not_mem_nil, or_false] at hw
        rcases hw with rfl | rfl | rfl | rfl | rfl
        · exact ⟨_, _, _, rfl, su _ _ b1, by unfold badRow netI pw; decide⟩
        · exact ⟨_, _, _, rfl, su _ _ b2, by unfold badRow netI pw; decide⟩
        · exact ⟨_, _, _, rfl, su _ _ b3, by unfold badRow netI pw; decide⟩
        · exact ⟨_, _, _, rfl, su _ _ b4, by unfold badRow netI pw; decide⟩
        · exact ⟨_, _, _, rfl, su _ _ b5, by unfold badRow netI pw; decide⟩
      have hdl : upd σ5 d (.list [.ref t1, .ref t2, .ref t3, .ref t4, .ref t5]) d = some (.list [.ref t1, .ref t2, .ref t3, .ref t4, .ref t5]) := upd_self
      show ∃ a vs, ∃ I : Nat → LE → AH → Prop, Value.ref d = .ref a ∧ upd σ5 d (.list [.ref t1, .ref t2, .ref t3, .ref t4, .ref t5]) a = some (.list vs) ∧ _
      generalize upd σ5 d (.list [.ref t1, .ref t2, .ref t3, .ref t4, .ref t5]) = σ6 at J6 bad hdl ⊢
      generalize ([.ref t1, .ref t2, .ref t3, .ref t4, .ref t5] : List Value) = vs at bad hdl ⊢
      clear su b1 b2 b3 b4 b5 J1 J2 J3 J4 J5 ht1 ht2 ht3 ht4 ht5 hd I0
      refine ⟨d, vs, fun k ρ τ => Sub σ6 τ ∧ LInv s R root 8 ρ τ, rfl, hdl, ⟨Sub.refl' _, J6⟩, fun k ρ τ h => h.1 _ _ hdl, ?_, fun ρ τ h => h.2⟩
      rintro k ρ τ w ⟨hs, I⟩ hw
      obtain ⟨t, n, p, rfl, ht, hbad⟩ := bad w (List.mem_of_getElem? hw)
      refine jas_tup2 (hs _ _ ht) (jas_name O l6 (jas_name O l7 ?_))
      have I1 := (I.set (i := 6) (v := some (vi n)) (by decide)).set (i := 7) (v := some (vi p)) (by decide)
      have f6 : ((ρ.set 6 (some (vi n))).set 7 (some (vi p)))[6]? = some (some (vi n)) := by rw [List.getElem?_set_ne (by decide), List.getElem?_set_self (by have := I.e8; omega)]
      have f7 : ((ρ.set 6 (some (vi n))).set 7 (some (vi p)))[7]? = some (some (vi p)) := by rw [List.getElem?_set_self (by rw [List.length_set]; have := I.e8; omega)]
      generalize (ρ.set 6 (some (vi n))).set 7 (some (vi p)) = ρ1 at I1 f6 f7 ⊢
      clear I
      obtain ⟨rl2, T2, ws2, e3, W2, hl2⟩ := I1.wi
      refine js_cons (js_if (jt_not (jt_val ?_)))
      refine je_callJ O g_law_refused (t_refused G) ?_
      refine ja_cons (je_loc O l2 I1.e2 (ja_cons (je_tuple ?_)))
      refine ja_cons (je_loc O l6 f6 (ja_cons (je_loc O l7 f7 (ja_cons (je_int (ja_cons (je_int (ja_cons (je_int (ja_nil ⟨by simp, fun rt hrt => ja_nil fun us eus => ?_⟩))))))))))
      have hs1 := Sub.upd (o := .tup [vi n, vi p, vi 0, vi 0, vi 0]) hrt
      refine j_refused O hou hcl hbase eus (hs1 _ _ W2.at_) upd_self hbad ?_
      exact ⟨true, rfl, fun h => (by cases h), fun _ => js_nil (js_nil ⟨hs.trans' hs1, I1.sub hs1⟩)⟩
    clear I0
    intro ρ0 σ0 I0
    refine jf1_cons (JX.mono (N := LInv s R root 8) (R := fun _ _ => False) ?_ ?_ (fun _ _ h => h))
    · refine js_if (jt_cmp (je_list ?_))
      refine ja_cons (je_call O g_is_broadcast (t_is_broadcast G) (v_is_broadcast G) (by decide) (ja_cons (je_int (ja_cons (je_int (ja_cons (je_int (ja_nil ⟨3, 0, 30, rfl, by decide, by decide, by decide, by decide, ?_⟩))))))))
      refine ja_cons (je_call O g_is_broadcast (t_is_broadcast G) (v_is_broadcast G) (by decide) (ja_cons (je_int (ja_cons (je_int (ja_cons (je_int (ja_nil ⟨1, 0, 31, rfl, by decide, by decide, by decide, by decide, ?_⟩))))))))
      refine ja_cons (je_call O g_is_broadcast (t_is_broadcast G) (v_is_broadcast G) (by decide) (ja_cons (je_int (ja_cons (je_int (ja_cons (je_int (ja_nil ⟨0, 0, 32, rfl, by decide, by decide, by decide, by decide, ?_⟩))))))))
      refine ja_nil ⟨by simp, fun d1 hd1 => je_list (ja_cons (je_bool (ja_cons (je_bool (ja_cons (je_bool (ja_nil ⟨by simp, fun d2 hd2 => ?_⟩)))))))⟩
      have s1 := Sub.upd (o := .list [.bool (bcI 3 0 30), .bool (bcI 1 0 31), .bool (bcI 0 0 32)]) hd1
      have s2 := Sub.upd (o := .list [.bool true, .bool false, .bool false]) hd2
      refine jc_neD O (.bools (bs := [bcI 3 0 30, bcI 1 0 31, bcI 0 0 32]) (s2 _ _ upd_self)) (.bools (bs := [true, false, false]) upd_self) rfl rfl ?_
      rw [show PyData.eqv (.list ([bcI 3 0 30, bcI 1 0 31, bcI 0 0 32].map .bool)) (.list ([true, false, false].map .bool)) = true from by decide +kernel]
      exact asB ⟨fun h => (by cases h), fun _ => js_nil (I0.sub (s1.trans' s2))⟩
    clear I0
    intro ρ0 σ0 I0
    obtain ⟨rl2, T2, ws2, e3, W2, hl2⟩ := I0.wi
    refine jf1_last fun hn => ?_
    have W3 := W2.ext (Ext.of_sub (Sub.upd (o := .raw (tabObj #[])) hn) W2.src).c
    have hP : upd σ0 325 (.raw (tabObj #[])) 325 = some (.raw (tabObj #[])) := upd_self
    generalize upd σ0 325 (.raw (tabObj #[])) = σ1 at W3 hP ⊢
    refine js_cons (js_ret (je_and2 ?_))
    refine je_call O g_law_all_right (t_all_right G) (v_all_right G) (by decide) ?_
    refine ja_cons (je_loc O l1 I0.e1 (ja_cons (je_loc O l2 I0.e2 (ja_cons (je_loc O l3 e3 (ja_nil ?_))))))
    refine ⟨s, R, root, rl2, T2, ws2, rfl, W3, by omega, hP, fun τ ps hsrc hps => ⟨true, rfl, fun _ => ?_, fun h => (by cases h)⟩⟩
    refine je_call O g_law_bits_right (t_bits_right G) (v_bits_right G) (by decide) ?_
    refine ja_cons (je_loc O l1 I0.e1 (ja_nil ?_))
    refine ⟨s, rfl, hsrc, fun υ hE => ⟨rfl, ps, hE.1 _ _ ?_ hps⟩⟩
    rintro rfl
    obtain ⟨a, b, h1, _⟩ := hsrc
    rw [hps] at h1; cases h1
  obtain ⟨o, h3, h4⟩ := h2
  exact h4 _ rfl (by rw [ho] at h3; cases h3; rfl)
end Mine
end

section
open PySem PySem.W PyProof.Rows PySem.Spec PySem.Calls
namespace Mine
theorem er_ints : ∀ {us : List Value} {ns : List Int}, IntsAre us ns → us.map er = ns.map vi
  | _, _, .nil => rfl
  | _, _, .cons n t h => by rw [List.map_cons, List.map_cons, er_ints h]; rfl
theorem law_end {w : World} {us : List Value} {ns : List Int} {h0 : Heap} {L fa sc : Addr} {cd : Value} {p : Program} {loose : List PySem.Str} {mean : ExcName → Option Value} {mg mb m : PySem.Str → Option Value} {body : List Stmt} {oc dV kV doc pm cdv ct : Value} {cn name qual : PySem.Str} {params : Arguments} {an od : Option Addr} {osl : Array (Option Value)} {s : Shared} {E : Value → Shared → Prop}
    (X : (Mine.hd.heap_39 w.params).In h0) (T : Top p loose mean mg mb h0) (K : Below callerA h0 [] h0) (F : Fr h0 L s.heap m) (hm : m (S "script") = some (.ref sc)) (N : News h0 L s.heap [(325, tabObj #[])]) (hl : h0.IsList sc us.toArray) (hI : IntsAre us ns) (hn : ns.length ≤ 1000)
    (ho : (Mine.hd.heap_39 w.params).lookup 342 = some ⟨oc, od, .func (fnOf name qual params body scLaw dV kV doc pm an cdv ct), osl⟩) :
    wpAny (model pr w) (callerA.deeper (envOf cn scLaw L fa cd)) (execs body (envOf cn scLaw L fa cd)) (fun f s' => f = .ret (.bool true) ∧ (∀ b o, h0.get? b = some o → s'.heap.get? b = some o) ∧ GrownAt 325 s'.heap ∧ s'.os = s.os ∧ s'.gens = s.gens) E s := by
  let G : GP := ⟨w, sc, ns⟩
  let c : FC := { dp := callerA.depth + 1, un := callerA.units + 3, gd := callerA.guards, cn := cn, cs := scLaw, L := L, a := fa, ccd := cd, cl := [], outer := [], A₀ := callerA, base := h0, h₀ := h0, nm := [S "script", S "source", S "routes", S "rows", S "turn", S "row", S "net", S "prefix"], gl := [S "_law_pool", S "Routes", S "range", S "_law_take", S "_law_route", S "Route", S "_law_put", S "_law_changed", S "_law_refused", S "is_broadcast", S "_law_all_right", S "_law_bits_right"] }
  have g : Gd G h0 := ⟨X, ⟨p, loose, mean, mg, mb, T⟩, us, hl, er_ints hI⟩
  have O : c.Ok G 9 := ⟨K, g, rfl, scL1, scL2, scL3, by show callerA.depth + 1 + 4 * 9 + 10 < recursionLimit; decide +kernel, by show callerA.units + 3 + 20 * 9 + 100 < cLine; decide +kernel⟩
  have S0 : St [(325, tabObj #[])] c [some (.ref G.sc), none, none, none, none, none, none, none] (fun _ => none) s := by
    refine ⟨m, _, F, N, fun i x hx v hv => ?_, fun a => a, ⟨by simp [keysOf], fun _ _ e => (nomatch e), fun _ _ e => (nomatch e), fun _ _ _ _ e => (nomatch e), fun p hp => hp, fun _ _ => rfl, fun _ _ _ _ e => (nomatch e)⟩⟩
    rcases i with _ | _ | _ | _ | _ | _ | _ | _ | i <;> simp at hv
    cases hx
    exact ⟨_, hm, hv⟩
  refine wpAny_mono ((law_body (G := G) (c := c) ho O rfl rfl rfl rfl rfl rfl hn).run s E S0) (fun f s' ⟨z, v, τ, ef, ⟨hv, ps, hps⟩, S1⟩ => ?_) fun _ _ x => x
  obtain ⟨m', news', F', N', _, R'⟩ := S1
  obtain ⟨o, ho1, ho2⟩ := R'.at1 hps rfl
  have : o = tabObj ps := ho2
  subst this
  refine ⟨by rw [ef, er_bool hv], fun b o e => F'.keep b o e, ⟨ps, (N' _ ho1).1⟩, z.2.2, z.1⟩
end Mine
end
section
open PySem PySem.W PyProof.Rows PySem.Spec PySem.Calls
namespace Mine
set_option maxHeartbeats 4000000 in
theorem law_holds : PySem.Challenge.rw_nu0125_01.Holds := Mine.hd.head (by rfl) (by rfl) (by rfl) (by
  delta hd.Walk hd.HK hd.AS hd.AL hd.LV hd.row0
  w_strict (
    k_go0
    rename_i hc hc2 hD h1 hX hT hK hF hN hlt
    refine' wpAny_mono (law_end (cn := S "law") (p := topProg) hX hT hK hF rfl hN lifted (by assumption) ?hn ?ho) (fun f s' h => ?_) (fun _ _ x => x)
    case ho => k_is
    case hn => omega
    obtain ⟨rfl, hk, hg, ho, hge⟩ := h
    refine ⟨⟨.inl ⟨.bool true, .bool true, [], rfl, fun _ => rfl, .bool true, ?_, fun _ => ⟨.nil, nofun⟩⟩, hk, ho, ?_⟩, hg, trivial⟩
    · exact postW_of (by wrow_shape) (by wtm_val) (by first | rfl | (str_meet; first | done | w_fin))
    · (exact hge.trans (by assumption))))
end Mine
end
theorem PySem.Challenge.cw_nu0125_01_holds : PySem.Challenge.rw_nu0125_01.Holds := by
  exact Mine.law_holds
